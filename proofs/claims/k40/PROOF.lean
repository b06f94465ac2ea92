import PyProof.Rows.All
import HandS.ForMost
import HandS.WordsExc
import HandS.TupAny
import HandS.TupMul
import HandS.Wide
import HandS.Zip
import HandS.Walk
import HandS.Flow
import HandS.IsInst
import HandS.Deep
import HandS.Steps
import KE.DataCmp
import KE.SortData
import KE.DataMinMax
import KE.GoesMore
import HandS.TupLe
import HandS.ExcOwn
import HandS.TryOnly
import HandS.Style
import HandS.Text
import HandS.More
import HandS.Conv
import PySem.Challenge.RW_friezewright_k40_whole_continuants
section
set_option linter.all false
set_option maxRecDepth 100000
/-! MiA: a small deterministic reading of Python's constructs: values D, a small heap of lists and dicts, combinators. No model in sight. -/
namespace Mi
open PySem

/-- a value: tuples and lists that nobody may change are values; a list that may change is a place of the small heap -/
inductive D where
  | non | bl (b : Bool) | int (i : Int) | str (s : Str)
  | tup (xs : List D) | fl (xs : List D) | ref (r : Nat)
  deriving Inhabited
/-- an object of the small heap; fz: a list that a loop walks -/
inductive Ob where
  | lst (xs : List D) | fz (xs : List D) | dic (kvs : List (D × D)) | fd (kvs : List (D × D))
  deriving Inhabited
/-- what an expression gives: a value, or a new object that stands nowhere yet -/
inductive Tv where
  | val (d : D) | new (o : Ob)
  deriving Inhabited
abbrev Hq := List Ob
abbrev Ev := List (Option D)
inductive R (α : Type) where
  | ok (a : α) (μ : Hq) | exc (c : Nat) (p : D) (μ : Hq) | fail
  deriving Inhabited
def R.bind {α β : Type} (x : R α) (f : α → Hq → R β) : R β := match x with
  | .ok a μ => f a μ
  | .exc c p μ => .exc c p μ
  | .fail => .fail
inductive Fl where
  | nx | rt (t : Tv) | bk | ct
  deriving Inhabited
inductive RS where
  | ok (f : Fl) (ρ : Ev) (μ : Hq) | exc (c : Nat) (p : D) (ρ : Ev) (μ : Hq) | fail
  deriving Inhabited
def R.toS {α : Type} (x : R α) (ρ : Ev) (f : α → Hq → RS) : RS := match x with
  | .ok a μ => f a μ
  | .exc c p μ => .exc c p ρ μ
  | .fail => .fail

abbrev TF := Ev → Hq → R Bool
abbrev AF := Ev → Hq → R (List D)
abbrev SF := Ev → Hq → RS
/-- a target: stores a value -/
abbrev GF := D → Ev → Hq → R Ev
/-- what is walked: the items, and the place that is locked meanwhile -/
structure Itm where
  xs : List D
  lk : Option Nat
abbrev IF := Ev → Hq → R Itm
/-- a call by the def's number -/
abbrev CF := Nat → List D → Hq → R Tv

def big : Nat := 1000000
def cap {α : Type} (n : Nat) (x : R α) : R α := if n ≤ 1000000 then x else .fail

/-! ### values -/
def mat : Tv → Hq → D × Hq
  | .val d, μ => (d, μ)
  | .new o, μ => (.ref μ.length, μ ++ [o])
def Ob.seq : Ob → Option (List D)
  | .lst xs => some xs
  | .fz xs => some xs
  | _ => none
def Ob.dct : Ob → Option (List (D × D))
  | .dic xs => some xs
  | .fd xs => some xs
  | _ => none
/-- the items of a list -/
def lq (μ : Hq) : Tv → Option (List D)
  | .val (.ref r) => (μ[r]?).bind Ob.seq
  | .val (.fl xs) => some xs
  | .new (.lst xs) => some xs
  | _ => none
/-- .. of a list that is made by the program -/
def mq (μ : Hq) : Tv → Option (List D)
  | .val (.ref r) => (μ[r]?).bind Ob.seq
  | .new (.lst xs) => some xs
  | _ => none
/-- the items of a list or tuple -/
def sq (μ : Hq) : Tv → Option (List D)
  | .val (.tup xs) => some xs
  | t => lq μ t
def dq (μ : Hq) : Tv → Option (List (D × D))
  | .val (.ref r) => (μ[r]?).bind Ob.dct
  | .new (.dic xs) => some xs
  | _ => none
mutual
/-- no place of the small heap in it -/
def D.pure : D → Bool
  | .tup xs => D.pures xs
  | .fl xs => D.pures xs
  | .ref _ => false
  | _ => true
def D.pures : List D → Bool
  | [] => true
  | d :: ds => d.pure && D.pures ds
end
def Ob.pure : Ob → Bool
  | .lst xs => D.pures xs
  | _ => false
mutual
/-- as the model's data -/
def D.py : D → PyData
  | .non => .none
  | .bl b => .bool b
  | .int i => .int i
  | .str s => .str s
  | .tup xs => .tuple (D.pys xs)
  | .fl xs => .list (D.pys xs)
  | .ref _ => .none
def D.pys : List D → List PyData
  | [] => []
  | d :: ds => d.py :: D.pys ds
end
/-- not deeper than n, no place of the small heap -/
def D.dep : Nat → D → Bool
  | n, .tup xs => match n with | 0 => false | n + 1 => xs.all (D.dep n)
  | n, .fl xs => match n with | 0 => false | n + 1 => xs.all (D.dep n)
  | _, .ref _ => false
  | _, .str s => s.cps.all (· < 0x110000)
  | _, .non => true
  | _, .bl _ => true
  | _, .int _ => true
def all2 {α β : Type} (f : α → β → Bool) : List α → List β → Bool
  | [], [] => true
  | x :: xs, y :: ys => f x y && all2 f xs ys
  | _, _ => false
def optAll {α β : Type} (f : α → Option β) : List α → Option (List β)
  | [] => some []
  | x :: xs => match f x with
    | none => none
    | some y => match optAll f xs with
      | none => none
      | some ys => some (y :: ys)
/-- equal, as Python says (data not deeper than n) -/
def D.eqv : Nat → D → D → Bool
  | _, .non, .non => true
  | _, .bl a, .bl b => a == b
  | _, .bl a, .int j => decide ((if a then 1 else 0) = j)
  | _, .int i, .bl b => decide (i = (if b then 1 else 0))
  | _, .int i, .int j => decide (i = j)
  | _, .str x, .str y => decide (x = y)
  | n + 1, .tup xs, .tup ys => all2 (D.eqv n) xs ys
  | n + 1, .fl xs, .fl ys => all2 (D.eqv n) xs ys
  | _, _, _ => false
/-- lists of the small heap read, to a depth -/
def snap (μ : Hq) : Nat → D → Option D
  | n, .tup xs => match n with | 0 => none | n + 1 => (optAll (snap μ n) xs).map .tup
  | n, .fl xs => match n with | 0 => none | n + 1 => (optAll (snap μ n) xs).map .fl
  | n, .ref r => match n with
    | 0 => none
    | n + 1 => match (μ[r]?).bind Ob.seq with
      | none => none
      | some xs => (optAll (snap μ n) xs).map .fl
  | _, .non => some .non
  | _, .bl b => some (.bl b)
  | _, .int i => some (.int i)
  | _, .str s => if s.cps.all (· < 0x110000) then some (.str s) else none
def depth : Nat := 40
/-- as data: not too deep, without places of the small heap -/
def dat (μ : Hq) : Tv → Option D
  | .val (.ref r) => snap μ depth (.ref r)
  | .val d => if d.dep depth then some d else none
  | .new (.lst xs) => snap μ depth (.fl xs)
  | _ => none

/-! ### operators -/
abbrev O2 := Tv → Tv → Hq → R Tv
abbrev O1 := Tv → Hq → R Tv
def vi (i : Int) : Tv := .val (.int i)
def vb (b : Bool) : Tv := .val (.bl b)
def opAdd : O2 := fun x y μ => match x, y with
  | .val (.int i), .val (.int j) => .ok (vi (i + j)) μ
  | .val (.str s), .val (.str t) => cap (s.length + t.length) (.ok (.val (.str (s ++ t))) μ)
  | .val (.tup xs), .val (.tup ys) => cap (xs.length + ys.length) (.ok (.val (.tup (xs ++ ys))) μ)
  | x, y => match mq μ x, mq μ y with
    | some xs, some ys => cap (xs.length + ys.length) (.ok (.new (.lst (xs ++ ys))) μ)
    | _, _ => .fail
def opAddI : O2 := fun x y μ => match x, y with
  | .val (.int i), .val (.int j) => .ok (vi (i + j)) μ
  | _, _ => .fail
def opSub : O2 := fun x y μ => match x, y with
  | .val (.int i), .val (.int j) => .ok (vi (i - j)) μ
  | _, _ => .fail
/-- nums whose product is not too large -/
def mulOk (i j : Int) : Bool := decide (i.natAbs < 18446744073709551616) || decide (j.natAbs < 18446744073709551616) || decide (i.natAbs.log2 + j.natAbs.log2 < 1000000)
def opMul : O2 := fun x y μ => match x, y with
  | .val (.int i), .val (.int j) => if mulOk i j then .ok (vi (i * j)) μ else .fail
  | .val (.tup xs), .val (.int k) => if 0 ≤ k ∧ k ≤ 1000 ∧ xs.length ≤ 1000 then .ok (.val (.tup (List.replicate k.toNat xs).flatten)) μ else .fail
  | x, .val (.int k) => match mq μ x with
    | some xs => if 0 ≤ k ∧ k ≤ 100000 then cap (xs.length * k.toNat) (.ok (.new (.lst (List.replicate k.toNat xs).flatten)) μ) else .fail
    | none => .fail
  | _, _ => .fail
def opDiv : O2 := fun x y μ => match x, y with
  | .val (.int i), .val (.int j) => if 0 < j then (if j < 1073741824 then .ok (vi (i / j)) μ else if j.natAbs.log2 < 9000 then .ok (vi (i / j)) μ else .fail) else .fail
  | _, _ => .fail
def opMod : O2 := fun x y μ => match x, y with
  | .val (.int i), .val (.int j) => if 0 < j then .ok (vi (i % j)) μ else .fail
  | _, _ => .fail
def opNeg : O1 := fun x μ => match x with
  | .val (.int i) => .ok (vi (-i)) μ
  | _ => .fail
def eqTv (x y : Tv) (μ : Hq) : Option Bool := match x, y with
  | .val (.int i), .val (.int j) => some (decide (i = j))
  | .val (.str i), .val (.str j) => some (decide (i = j))
  | x, y => match dat μ x, dat μ y with
    | some a, some b => some (D.eqv depth a b)
    | _, _ => none
def opEq : O2 := fun x y μ => match eqTv x y μ with
  | some b => .ok (vb b) μ
  | none => .fail
def opNe : O2 := fun x y μ => match eqTv x y μ with
  | some b => .ok (vb (!b)) μ
  | none => .fail
def opLt : O2 := fun x y μ => match x, y with
  | .val (.int i), .val (.int j) => .ok (vb (decide (i < j))) μ
  | _, _ => .fail
def opLe : O2 := fun x y μ => match x, y with
  | .val (.int i), .val (.int j) => .ok (vb (decide (i ≤ j))) μ
  | _, _ => .fail
def opGt : O2 := fun x y μ => match x, y with
  | .val (.int i), .val (.int j) => .ok (vb (decide (j < i))) μ
  | _, _ => .fail
def opGe : O2 := fun x y μ => match x, y with
  | .val (.int i), .val (.int j) => .ok (vb (decide (j ≤ i))) μ
  | _, _ => .fail
/-- the place that an index means -/
def ixq (n : Nat) (i : Int) : Option Nat := if 0 ≤ i then (if i < n then some i.toNat else none) else if -(n : Int) ≤ i then some (i + n).toNat else none
def at? (xs : List D) (i : Int) : Option D := match ixq xs.length i with
  | some j => xs[j]?
  | none => none
def opIx : O2 := fun x y μ => match y with
  | .val (.int i) => match sq μ x with
    | some xs => match at? xs i with
      | some d => .ok (.val d) μ
      | none => .fail
    | none => .fail
  | _ => .fail

abbrev EF := Ev → Hq → R Tv
/-! ### built-ins -/
def opLen : O1 := fun x μ => match x with
  | .val (.str s) => cap s.length (.ok (vi s.length) μ)
  | x => match sq μ x with
    | some xs => .ok (vi xs.length) μ
    | none => .fail
def opAbs : O1 := fun x μ => match x with
  | .val (.int i) => .ok (vi (if i < 0 then -i else i)) μ
  | _ => .fail
def opInt : O1 := fun x μ => match x with
  | .val (.int i) => .ok (vi i) μ
  | .val (.bl b) => .ok (vi (if b then 1 else 0)) μ
  | _ => .fail
def opTuple : O1 := fun x μ => match x with
  | .val (.tup xs) => .ok (.val (.tup xs)) μ
  | x => match lq μ x with
    | some xs => .ok (.val (.tup xs)) μ
    | none => .fail
def opList : O1 := fun x μ => match sq μ x with
  | some xs => .ok (.new (.lst xs)) μ
  | none => .fail
def bls : List D → Option (List Bool)
  | [] => some []
  | .bl b :: r => match bls r with
    | some bs => some (b :: bs)
    | none => none
  | _ => none
def nums : List D → Option (List Int)
  | [] => some []
  | .int b :: r => match nums r with
    | some bs => some (b :: bs)
    | none => none
  | _ => none
def opAll : O1 := fun x μ => match (lq μ x).bind bls with
  | some bs => .ok (vb (bs.all id)) μ
  | none => .fail
def opAny : O1 := fun x μ => match (lq μ x).bind bls with
  | some bs => .ok (vb (bs.any id)) μ
  | none => .fail
def opSum : O1 := fun x μ => match (lq μ x).bind nums with
  | some bs => .ok (vi bs.sum) μ
  | none => .fail
inductive Ty where
  | int | bool | str | tuple | list | dict
def isTy (μ : Hq) : Ty → Tv → Option Bool
  | t, .val .non => some false
  | t, .val (.bl _) => some (match t with | .int => true | .bool => true | _ => false)
  | t, .val (.int _) => some (match t with | .int => true | _ => false)
  | t, .val (.str _) => some (match t with | .str => true | _ => false)
  | t, .val (.tup _) => some (match t with | .tuple => true | _ => false)
  | t, x => match lq μ x with
    | some _ => some (match t with | .list => true | _ => false)
    | none => none
def opIsi (t : Ty) : O1 := fun x μ => match isTy μ t x with
  | some b => .ok (vb b) μ
  | none => .fail
/-- a[lo:hi] -/
def ptI (n : Nat) (d : Nat) : Option Int → Nat
  | none => d
  | some i => if i < 0 then (i + n).toNat else min i.toNat n
def cutq (xs : List D) (lo hi : Option Int) : List D := (xs.drop (ptI xs.length 0 lo)).take (ptI xs.length xs.length hi - ptI xs.length 0 lo)
abbrev PF := Ev → Hq → R (Option Int)
def pN : PF := fun _ μ => .ok none μ
def pS (e : EF) : PF := fun ρ μ => (e ρ μ).bind fun x μ1 => match x with
  | .val (.int i) => .ok (some i) μ1
  | _ => .fail
def slV (l h : Option Int) : O1 := fun x μ => match x with
  | .val (.tup xs) => .ok (.val (.tup (cutq xs l h))) μ
  | x => match lq μ x with
    | some xs => .ok (.new (.lst (cutq xs l h))) μ
    | none => .fail
def eSl (e : EF) (lo hi : PF) : EF := fun ρ μ => (e ρ μ).bind fun x μ1 => (lo ρ μ1).bind fun l μ2 => (hi ρ μ2).bind fun h μ3 => slV l h x μ3
/-- xs.append(e) -/
def eApp (o e : EF) : EF := fun ρ μ => (o ρ μ).bind fun x μ1 => match x with
  | .val (.ref r) => match (μ1[r]?).bind Ob.seq with
    | some _ => (e ρ μ1).bind fun y μ2 => match (mat y μ2).2[r]? with
      | some (.lst xs) => cap xs.length (.ok (.val .non) ((mat y μ2).2.set r (.lst (xs ++ [(mat y μ2).1]))))
      | _ => .fail
    | none => .fail
  | _ => .fail
def zipD : List D → List D → List D
  | x :: xs, y :: ys => .tup [x, y] :: zipD xs ys
  | _, _ => []
/-- zip of two tuples, or two lists that stand nowhere -/
def iZip (a b : EF) : IF := fun ρ μ => (a ρ μ).bind fun x μ1 => (b ρ μ1).bind fun y μ2 => match x, y with
  | .val (.tup xs), .val (.tup ys) => .ok ⟨zipD xs ys, none⟩ μ2
  | _, _ => .fail
/-! ### expressions -/
def eVar (i : Nat) : EF := fun ρ μ => match ρ[i]? with
  | some (some d) => .ok (.val d) μ
  | _ => .fail
def eC (d : D) : EF := fun _ μ => .ok (.val d) μ
def e2 (op : O2) (a b : EF) : EF := fun ρ μ => (a ρ μ).bind fun x μ1 => (b ρ μ1).bind fun y μ2 => op x y μ2
def e1 (op : O1) (a : EF) : EF := fun ρ μ => (a ρ μ).bind fun x μ1 => op x μ1
def aNil : AF := fun _ μ => .ok [] μ
def aCons (e : EF) (r : AF) : AF := fun ρ μ => (e ρ μ).bind fun t μ1 => (r ρ (mat t μ1).2).bind fun ds μ2 => .ok ((mat t μ1).1 :: ds) μ2
def eTup (a : AF) : EF := fun ρ μ => (a ρ μ).bind fun ds μ1 => cap ds.length (.ok (.val (.tup ds)) μ1)
def eLst (a : AF) : EF := fun ρ μ => (a ρ μ).bind fun ds μ1 => cap ds.length (.ok (.new (.lst ds)) μ1)
/-- the truth of a value -/
def tru (μ : Hq) : Tv → Option Bool
  | .val .non => some false
  | .val (.bl b) => some b
  | .val (.int i) => some (i != 0)
  | .val (.str s) => if s.length ≤ 1000000 then some (s.length != 0) else none
  | t => match sq μ t with
    | some xs => some (!xs.isEmpty)
    | none => none
def tV (e : EF) : TF := fun ρ μ => (e ρ μ).bind fun t μ1 => match tru μ1 t with
  | some b => .ok b μ1
  | none => .fail
def tAnd (a b : TF) : TF := fun ρ μ => (a ρ μ).bind fun c μ1 => if c then b ρ μ1 else .ok false μ1
def tOr (a b : TF) : TF := fun ρ μ => (a ρ μ).bind fun c μ1 => if c then .ok true μ1 else b ρ μ1
def tNot (a : TF) : TF := fun ρ μ => (a ρ μ).bind fun c μ1 => .ok (!c) μ1
def eIf (c : TF) (a b : EF) : EF := fun ρ μ => (c ρ μ).bind fun k μ1 => if k then a ρ μ1 else b ρ μ1
/-- and, or, not as values -/
def eAnd (a b : EF) : EF := fun ρ μ => (a ρ μ).bind fun x μ1 => match tru μ1 x with
  | some true => b ρ μ1
  | some false => .ok x μ1
  | none => .fail
def eOr (a b : EF) : EF := fun ρ μ => (a ρ μ).bind fun x μ1 => match tru μ1 x with
  | some true => .ok x μ1
  | some false => b ρ μ1
  | none => .fail
def eNot (a : EF) : EF := fun ρ μ => (a ρ μ).bind fun x μ1 => match tru μ1 x with
  | some b => .ok (vb (!b)) μ1
  | none => .fail
def eCall (cf : CF) (f : Nat) (a : AF) : EF := fun ρ μ => (a ρ μ).bind fun ds μ1 => cf f ds μ1

/-! ### what is walked -/
def itOf (μ : Hq) : Tv → Option Itm
  | .val (.tup xs) => some ⟨xs, none⟩
  | .val (.fl xs) => some ⟨xs, none⟩
  | .new (.lst xs) => some ⟨xs, none⟩
  | .val (.ref r) => match (μ[r]?).bind Ob.seq with
    | some xs => some ⟨xs, some r⟩
    | none => none
  | _ => none
/-- a list is locked while it is walked -/
def lockq (l : Option Nat) (xs : List D) (μ : Hq) : Hq := match l with
  | some r => μ.set r (.fz xs)
  | none => μ
def unlockq (l : Option Nat) (μ0 μ : Hq) : Hq := match l with
  | some r => match μ0[r]? with
    | some o => μ.set r o
    | none => μ
  | none => μ
def iE (e : EF) : IF := fun ρ μ => (e ρ μ).bind fun t μ1 => match itOf μ1 t with
  | some i => .ok i μ1
  | none => .fail
def rangeD (lo : Int) : Nat → List D
  | 0 => []
  | n + 1 => .int lo :: rangeD (lo + 1) n
def iRange1 (a : EF) : IF := fun ρ μ => (a ρ μ).bind fun x μ1 => match x with
  | .val (.int n) => if n < 1000000000 ∧ -1000000000 < n then .ok ⟨rangeD 0 n.toNat, none⟩ μ1 else .fail
  | _ => .fail
def rgOf : Tv → Tv → Option Itm
  | .val (.int lo), .val (.int hi) => if (hi < 1000000000 ∧ -1000000000 < hi) ∧ (lo < 1000000000 ∧ -1000000000 < lo) then some ⟨rangeD lo (hi - lo).toNat, none⟩ else none
  | _, _ => none
def iRange2 (a b : EF) : IF := fun ρ μ => (a ρ μ).bind fun x μ1 => (b ρ μ1).bind fun y μ2 => match rgOf x y with
  | some it => .ok it μ2
  | none => .fail

/-! ### targets -/
def gN (i : Nat) : GF := fun d ρ μ => .ok (ρ.set i (some d)) μ
abbrev GsF := List D → Ev → Hq → R Ev
def gsNil : GsF := fun ds ρ μ => match ds with
  | [] => .ok ρ μ
  | _ => .fail
def gsCons (g : GF) (r : GsF) : GsF := fun ds ρ μ => match ds with
  | d :: t => match g d ρ μ with
    | .ok ρ1 μ1 => match r t ρ1 μ1 with
      | .ok ρ2 μ2 => .ok ρ2 μ2
      | _ => .fail
    | _ => .fail
  | [] => .fail
def gT (gs : GsF) : GF := fun d ρ μ => match d with
  | .tup xs => gs xs ρ μ
  | _ => .fail
def setAt (r : Nat) (o : Ob) (μ : Hq) : Hq := μ.set r o
/-- o[i] = d, o a list of the small heap -/
def gIx (o i : EF) : GF := fun d ρ μ => (o ρ μ).bind fun x μ1 => (i ρ μ1).bind fun y μ2 => match x, y with
  | .val (.ref r), .val (.int k) => match μ2[r]? with
    | some (.lst xs) => match ixq xs.length k with
      | some j => .ok ρ (μ2.set r (.lst (xs.set j d)))
      | none => .fail
    | _ => .fail
  | _, _ => .fail

/-! ### comprehensions -/
def wip (ρ : Ev) : List Nat → Ev
  | [] => ρ
  | v :: vs => (wip ρ vs).set v none
/-- the items that a comprehension makes -/
def lcGo (g : GF) (c : TF) (e : EF) (ρ : Ev) : List D → Hq → R (List D)
  | [], μ => .ok [] μ
  | x :: xs, μ => match g x ρ μ with
    | .ok ρ1 μ1 => match c ρ1 μ1 with
      | .ok true μ2 => match e ρ1 μ2 with
        | .ok t μ3 => match lcGo g c e ρ xs (mat t μ3).2 with
          | .ok ds μ4 => .ok ((mat t μ3).1 :: ds) μ4
          | _ => .fail
        | _ => .fail
      | .ok false μ2 => lcGo g c e ρ xs μ2
      | _ => .fail
    | _ => .fail
def tYs : TF := fun _ μ => .ok true μ
def eLc (own : List Nat) (g : GF) (i : IF) (c : TF) (e : EF) : EF := fun ρ μ => (i ρ μ).bind fun it μ1 =>
  match lcGo g c e (wip ρ own) it.xs (lockq it.lk it.xs μ1) with
  | .ok ds μ2 => cap it.xs.length (.ok (.new (.lst ds)) (unlockq it.lk μ1 μ2))
  | _ => .fail

/-! ### statements -/
def sNil : SF := fun ρ μ => .ok .nx ρ μ
def sCons (a b : SF) : SF := fun ρ μ => match a ρ μ with
  | .ok .nx ρ1 μ1 => b ρ1 μ1
  | r => r
def sAsg (g : GF) (e : EF) : SF := fun ρ μ => (e ρ μ).toS ρ fun t μ1 => (g (mat t μ1).1 ρ (mat t μ1).2).toS ρ fun ρ2 μ2 => .ok .nx ρ2 μ2
/-- a, b = x, y -/
def sPar (i j : Nat) (a : AF) : SF := fun ρ μ => (a ρ μ).toS ρ fun ds μ1 => match ds with
  | [x, y] => .ok .nx ((ρ.set i (some x)).set j (some y)) μ1
  | _ => .fail
def sAug (i : Nat) (op : O2) (e : EF) : SF := fun ρ μ => match ρ[i]? with
  | some (some d) => (e ρ μ).toS ρ fun y μ1 => (op (.val d) y μ1).toS ρ fun z μ2 => .ok .nx (ρ.set i (some (mat z μ2).1)) (mat z μ2).2
  | _ => .fail
def sE (e : EF) : SF := fun ρ μ => (e ρ μ).toS ρ fun _ μ1 => .ok .nx ρ μ1
def sRet (e : EF) : SF := fun ρ μ => (e ρ μ).toS ρ fun t μ1 => .ok (.rt t) ρ μ1
def sRetN : SF := fun ρ μ => .ok (.rt (.val .non)) ρ μ
def sIf (c : TF) (a b : SF) : SF := fun ρ μ => (c ρ μ).toS ρ fun k μ1 => if k then a ρ μ1 else b ρ μ1
def sPass : SF := sNil
def sBrk : SF := fun ρ μ => .ok .bk ρ μ
def sCnt : SF := fun ρ μ => .ok .ct ρ μ
def sNever : SF := fun _ _ => .fail
def whGo (c : TF) (b : SF) : Nat → SF
  | 0 => fun _ _ => .fail
  | n + 1 => fun ρ μ => (c ρ μ).toS ρ fun k μ1 => if k then (match b ρ μ1 with
      | .ok .nx ρ2 μ2 => whGo c b n ρ2 μ2
      | .ok .ct ρ2 μ2 => whGo c b n ρ2 μ2
      | .ok .bk ρ2 μ2 => .ok .nx ρ2 μ2
      | r => r) else .ok .nx ρ μ1
def sWh (c : TF) (b : SF) : SF := whGo c b big
def foGo (g : GF) (b : SF) : List D → SF
  | [] => fun ρ μ => .ok .nx ρ μ
  | x :: xs => fun ρ μ => (g x ρ μ).toS ρ fun ρ1 μ1 => match b ρ1 μ1 with
      | .ok .nx ρ2 μ2 => foGo g b xs ρ2 μ2
      | .ok .ct ρ2 μ2 => foGo g b xs ρ2 μ2
      | .ok .bk ρ2 μ2 => .ok .nx ρ2 μ2
      | r => r
def unlockS (l : Option Nat) (μ0 : Hq) : RS → RS
  | .ok f ρ μ => .ok f ρ (unlockq l μ0 μ)
  | .exc c p ρ μ => .exc c p ρ (unlockq l μ0 μ)
  | .fail => .fail
def sFor (g : GF) (i : IF) (b : SF) : SF := fun ρ μ => (i ρ μ).toS ρ fun it μ1 => unlockS it.lk μ1 (foGo g b it.xs ρ (lockq it.lk it.xs μ1))

/-! ### defs -/
structure FD where
  np : Nat
  nn : Nat
  body : CF → SF
def slots (nn : Nat) (ds : List D) : Ev := ds.map some ++ List.replicate (nn - ds.length) none
/-- what a body's end hands back -/
def endV : RS → R Tv
  | .ok .nx _ μ => .ok (.val .non) μ
  | .ok (.rt t) _ μ => .ok t μ
  | .exc c p _ μ => .exc c p μ
  | _ => .fail
/-- a call that is handed no place of the small heap: it runs over its own, and hands back a value or one new object -/
def alone (μ : Hq) : R Tv → R Tv
  | .ok (.val (.ref r)) μ1 => match μ1[r]? with
    | some o => if o.pure then .ok (.new o) μ else .fail
    | none => .fail
  | .ok (.val d) _ => if d.pure then .ok (.val d) μ else .fail
  | .ok (.new o) _ => if o.pure then .ok (.new o) μ else .fail
  | .exc c p _ => if p.pure then .exc c p μ else .fail
  | .fail => .fail
/-- the first reading, where it is one -/
def R.orE {α : Type} (a b : R α) : R α := match a with
  | .fail => b
  | r => r
def enter (fd : FD) (cf : CF) (ds : List D) (μ : Hq) : R Tv := endV (fd.body cf (slots fd.nn ds) μ)
def callF (tab : List FD) : Nat → CF
  | 0 => fun _ _ _ => .fail
  | n + 1 => fun f ds μ => match tab[f]? with
    | some fd => if ds.length = fd.np then (if D.pures ds then (alone μ (enter fd (callF tab n) ds [])).orE (enter fd (callF tab n) ds μ) else enter fd (callF tab n) ds μ) else .fail
    | none => .fail
end Mi
end
section
set_option linter.all false
set_option maxRecDepth 100000
/-! MiA2: more combinators: order of data, sorting, membership, methods, dicts, exceptions. -/
namespace Mi
open PySem
/-! ### order of data -/
def lexD (e l : D → D → Bool) : List D → List D → Bool
  | [], [] => false
  | [], _ :: _ => true
  | _ :: _, [] => false
  | x :: xs, y :: ys => if e x y then lexD e l xs ys else l x y
def lexN : List Nat → List Nat → Bool
  | [], [] => false
  | [], _ :: _ => true
  | _ :: _, [] => false
  | x :: xs, y :: ys => if x = y then lexN xs ys else decide (x < y)
/-- a < b, for alike data -/
def D.blt : Nat → D → D → Bool
  | _, .bl a, .bl b => !a && b
  | _, .int i, .int j => decide (i < j)
  | _, .str x, .str y => lexN x.cps.toList y.cps.toList
  | n + 1, .tup xs, .tup ys => lexD (D.eqv n) (D.blt n) xs ys
  | n + 1, .fl xs, .fl ys => lexD (D.eqv n) (D.blt n) xs ys
  | _, _, _ => false
def allq (f : D → D → Bool) : List D → List D → Bool
  | x :: xs, y :: ys => f x y && allq f xs ys
  | _, _ => true
/-- the two can be compared -/
def D.alk : Nat → D → D → Bool
  | _, .non, .non => true
  | _, .bl _, .bl _ => true
  | _, .int _, .int _ => true
  | _, .str _, .str _ => true
  | n + 1, .tup xs, .tup ys => allq (D.alk n) xs ys
  | n + 1, .fl xs, .fl ys => allq (D.alk n) xs ys
  | _, _, _ => false
def D.isNon : D → Bool
  | .non => true
  | _ => false
def ordTv (x y : Tv) (μ : Hq) : Option (D × D) := match dat μ x, dat μ y with
  | some a, some b => if D.alk depth a b && !a.isNon then some (a, b) else none
  | _, _ => none
def opLtA : O2 := fun x y μ => match x, y with
  | .val (.int i), .val (.int j) => .ok (vb (decide (i < j))) μ
  | x, y => match ordTv x y μ with
    | some (a, b) => .ok (vb (D.blt depth a b)) μ
    | none => .fail
def opGtA : O2 := fun x y μ => match x, y with
  | .val (.int i), .val (.int j) => .ok (vb (decide (j < i))) μ
  | x, y => match ordTv x y μ with
    | some (a, b) => .ok (vb (D.blt depth b a)) μ
    | none => .fail
def opLeA : O2 := fun x y μ => match x, y with
  | .val (.int i), .val (.int j) => .ok (vb (decide (i ≤ j))) μ
  | x, y => match ordTv x y μ with
    | some (a, b) => .ok (vb (!D.blt depth b a)) μ
    | none => .fail
def opGeA : O2 := fun x y μ => match x, y with
  | .val (.int i), .val (.int j) => .ok (vb (decide (j ≤ i))) μ
  | x, y => match ordTv x y μ with
    | some (a, b) => .ok (vb (!D.blt depth a b)) μ
    | none => .fail
/-! ### in -/
def inTv (x y : Tv) (μ : Hq) : Option Bool := match x, y with
  | .val (.str a), .val (.str b) => match a.cps.toList with
    | [c] => some (decide (c ∈ b.cps.toList))
    | _ => none
  | x, y => match dat μ x, dat μ y with
    | some a, some (.fl ds) => some (ds.any fun z => D.eqv depth z a)
    | some a, some (.tup ds) => some (ds.any fun z => D.eqv depth z a)
    | _, _ => none
def opIn : O2 := fun x y μ => match inTv x y μ with
  | some b => .ok (vb b) μ
  | none => .fail
def opNotIn : O2 := fun x y μ => match inTv x y μ with
  | some b => .ok (vb (!b)) μ
  | none => .fail
/-! ### sorting -/
def insq (le : D → D → Bool) (x : D) : List D → List D
  | [] => [x]
  | y :: ys => if le x y then x :: y :: ys else y :: insq le x ys
def isort (le : D → D → Bool) : List D → List D
  | [] => []
  | x :: xs => insq le x (isort le xs)
/-- all data, not deeper than depth, pairwise alike, and such that can be sorted -/
def alkAll (xs : List D) : Bool := match xs with
  | [] => true
  | x :: r => xs.all fun a => xs.all fun b => D.alk depth a b
def isTupN : D → Bool
  | .tup (_ :: _) => true
  | _ => false
def notTup : D → Bool
  | .tup _ => false
  | .non => false
  | _ => true
/-- alike with every other: told fast for ints, and for tuples of ints of one length -/
def intsq : List D → Bool
  | [] => true
  | .int _ :: r => intsq r
  | _ => false
def sameShape : Nat → D → D → Bool
  | _, .bl _, .bl _ => true
  | _, .int _, .int _ => true
  | _, .str _, .str _ => true
  | n + 1, .tup xs, .tup ys => all2 (sameShape n) xs ys
  | n + 1, .fl xs, .fl ys => all2 (sameShape n) xs ys
  | _, _, _ => false
def sortOk (xs : List D) : Bool := xs.all (D.dep depth) && (xs.all isTupN || xs.all notTup) && (match xs with
  | [] => true
  | x :: r => r.all (sameShape depth x) && sameShape depth x x || alkAll xs)
def opSorted : O1 := fun x μ => match lq μ x with
  | some xs => if sortOk xs then cap xs.length (.ok (.new (.lst (isort (fun a b => !D.blt depth b a) xs))) μ) else .fail
  | none => .fail
end Mi
namespace Mi
open PySem
/-! ### items of lists, written -/
/-- o[i] op= e -/
def sAugIx (o i : EF) (op : O2) (e : EF) : SF := fun ρ μ => (o ρ μ).toS ρ fun x μ1 => (i ρ μ1).toS ρ fun y μ2 => match x, y with
  | .val (.ref r), .val (.int k) => match μ2[r]? with
    | some (.lst xs) => match at? xs k with
      | some d => (e ρ μ2).toS ρ fun z μ3 => (op (.val d) z μ3).toS ρ fun w μ4 => match (mat w μ4).2[r]? with
        | some (.lst ys) => match ixq ys.length k with
          | some j => .ok .nx ρ ((mat w μ4).2.set r (.lst (ys.set j (mat w μ4).1)))
          | none => .fail
        | _ => .fail
      | none => .fail
    | _ => .fail
  | _, _ => .fail
/-- xs.pop() -/
def ePop (o : EF) : EF := fun ρ μ => (o ρ μ).bind fun x μ1 => match x with
  | .val (.ref r) => match μ1[r]? with
    | some (.lst xs) => match xs[xs.length - 1]? with
      | some d => .ok (.val d) (μ1.set r (.lst xs.dropLast))
      | none => .fail
    | _ => .fail
  | _ => .fail
/-- xs.pop(i) -/
def ePopAt (o i : EF) : EF := fun ρ μ => (o ρ μ).bind fun x μ1 => match x with
  | .val (.ref r) => match (μ1[r]?).bind Ob.seq with
    | some _ => (i ρ μ1).bind fun y μ2 => match y with
      | .val (.int k) => if -1000000 < k ∧ k < 1000000 then (match μ2[r]? with
        | some (.lst xs) => match ixq xs.length k with
          | some j => match xs[j]? with
            | some d => .ok (.val d) (μ2.set r (.lst (xs.eraseIdx j)))
            | none => .fail
          | none => .fail
        | _ => .fail) else .fail
      | _ => .fail
    | none => .fail
  | _ => .fail
/-- xs.extend(ys), ys a list -/
def eExt (o e : EF) : EF := fun ρ μ => (o ρ μ).bind fun x μ1 => match x with
  | .val (.ref r) => match (μ1[r]?).bind Ob.seq with
    | some _ => (e ρ μ1).bind fun y μ2 => match mq μ2 y with
      | some ys => match μ2[r]? with
        | some (.lst xs) => cap (xs.length + ys.length) (.ok (.val .non) (μ2.set r (.lst (xs ++ ys))))
        | _ => .fail
      | none => .fail
    | none => .fail
  | _ => .fail
end Mi
namespace Mi
open PySem
/-! ### is -/
def opIs : O2 := fun x y μ => match x, y with
  | .val (.bl a), .val (.bl b) => .ok (vb (decide (a = b))) μ
  | .val .non, .val .non => .ok (vb true) μ
  | .val (.bl _), .val .non => .ok (vb false) μ
  | .val (.int _), .val .non => .ok (vb false) μ
  | .val (.str _), .val .non => .ok (vb false) μ
  | .val (.tup _), .val .non => .ok (vb false) μ
  | .val (.fl _), .val .non => .ok (vb false) μ
  | .val (.ref _), .val .non => .ok (vb false) μ
  | .new (.lst _), .val .non => .ok (vb false) μ
  | _, _ => .fail
def opIsNot : O2 := fun x y μ => match x, y with
  | .val (.bl a), .val (.bl b) => .ok (vb (!decide (a = b))) μ
  | .val .non, .val .non => .ok (vb false) μ
  | .val (.bl _), .val .non => .ok (vb true) μ
  | .val (.int _), .val .non => .ok (vb true) μ
  | .val (.str _), .val .non => .ok (vb true) μ
  | .val (.tup _), .val .non => .ok (vb true) μ
  | .val (.fl _), .val .non => .ok (vb true) μ
  | .val (.ref _), .val .non => .ok (vb true) μ
  | .new (.lst _), .val .non => .ok (vb true) μ
  | _, _ => .fail
/-! ### x[i], also of a text -/
def opIxA : O2 := fun x y μ => match x, y with
  | .val (.str s), .val (.int i) => match ixq s.cps.toList.length i with
    | some j => match s.cps.toList[j]? with
      | some c => cap s.length (.ok (.val (.str ⟨#[c]⟩)) μ)
      | none => .fail
    | none => .fail
  | x, y => opIx x y μ
/-! ### what is walked: texts, steps, enumerate -/
def iEA (e : EF) : IF := fun ρ μ => (e ρ μ).bind fun t μ1 => match t with
  | .val (.str s) => .ok ⟨s.cps.toList.map fun c => .str ⟨#[c]⟩, none⟩ μ1
  | t => match itOf μ1 t with
    | some i => .ok i μ1
    | none => .fail
def rangeC (lo c : Int) : Nat → List D
  | 0 => []
  | n + 1 => .int lo :: rangeC (lo + c) c n
/-- range(i, j, -1) -/
def iRange3 (a b c : EF) : IF := fun ρ μ => (a ρ μ).bind fun x μ1 => (b ρ μ1).bind fun y μ2 => (c ρ μ2).bind fun z μ3 => match x, y, z with
  | .val (.int i), .val (.int j), .val (.int k) => if k = -1 ∧ (i < 1000000000 ∧ -1000000000 < i) ∧ (j < 1000000000 ∧ -1000000000 < j) then .ok ⟨rangeC i (-1) (i - j).toNat, none⟩ μ3 else .fail
  | _, _, _ => .fail
def enumD : Nat → List D → List D
  | _, [] => []
  | n, x :: xs => .tup [.int n, x] :: enumD (n + 1) xs
def enOf (μ : Hq) : Tv → Option Itm
  | .val (.tup xs) => some ⟨enumD 0 xs, none⟩
  | .val (.fl xs) => some ⟨enumD 0 xs, none⟩
  | .new (.lst xs) => some ⟨enumD 0 xs, none⟩
  | _ => none
def iEnum (e : EF) : IF := fun ρ μ => (e ρ μ).bind fun t μ1 => match enOf μ1 t with
  | some i => .ok i μ1
  | none => .fail
/-! ### max, min of two ints -/
def opMax2 : O2 := fun x y μ => match x, y with
  | .val (.int i), .val (.int j) => .ok (vi (if j > i then j else i)) μ
  | _, _ => .fail
def opMin2 : O2 := fun x y μ => match x, y with
  | .val (.int i), .val (.int j) => .ok (vi (if j < i then j else i)) μ
  | _, _ => .fail
/-! ### a op b op c -/
abbrev KF := Tv → Ev → Hq → R Tv
def eChn (a : EF) (k : KF) : EF := fun ρ μ => (a ρ μ).bind fun x μ1 => k x ρ μ1
def chLast (op : O2) (c : EF) : KF := fun y ρ μ => (c ρ μ).bind fun z μ1 => op y z μ1
def chMore (op : O2) (b : EF) (k : KF) : KF := fun y ρ μ => (b ρ μ).bind fun z μ1 => (op y z μ1).bind fun w μ2 => match w with
  | .val (.bl true) => k z ρ μ2
  | .val (.bl false) => .ok (vb false) μ2
  | _ => .fail
end Mi
namespace Mi
open PySem
/-! ### op= -/
def opAddJ : O2 := fun x y μ => match x, y with
  | .val (.int i), .val (.int j) => .ok (vi (i + j)) μ
  | .val (.str s), .val (.str t) => cap (s.length + t.length) (.ok (.val (.str (s ++ t))) μ)
  | _, _ => .fail
end Mi
namespace Mi
open PySem
/-- a if c else b, as a test -/
def tIf (c a b : TF) : TF := fun ρ μ => (c ρ μ).bind fun k μ1 => if k then a ρ μ1 else b ρ μ1
end Mi
namespace Mi
open PySem
/-- sum of a list or tuple of ints -/
def opSumA : O1 := fun x μ => match (sq μ x).bind nums with
  | some bs => .ok (vi bs.sum) μ
  | none => .fail
end Mi
namespace Mi
open PySem
/-! ### exceptions without payload -/
/-- raise X(), X the class of number c -/
def sRz (c : Nat) : SF := fun ρ μ => .exc c .non ρ μ
def lookK : List (Nat × Bool) → Nat → Option Bool
  | [], _ => none
  | (c, b) :: r, n => if c = n then some b else lookK r n
/-- a suite lets out no exception -/
def calmS : RS → RS
  | .exc _ _ _ _ => .fail
  | r => r
/-- try: b, except ..: s; ks tells of each class that b may raise whether it is caught -/
def sTry (b : SF) (ks : List (Nat × Bool)) (s : SF) : SF := fun ρ μ => match b ρ μ with
  | .exc c p ρ1 μ1 => match lookK ks c with
    | some true => calmS (s ρ1 μ1)
    | some false => .exc c p ρ1 μ1
    | none => .fail
  | r => r
end Mi
namespace Mi
open PySem
/-- x[::-1] -/
def opRev : O1 := fun x μ => match x with
  | .val (.tup xs) => .ok (.val (.tup xs.reverse)) μ
  | x => match lq μ x with
    | some xs => .ok (.new (.lst xs.reverse)) μ
    | none => .fail
/-- x & 1 -/
def opAnd1 : O2 := fun x y μ => match x, y with
  | .val (.int i), .val (.int 1) => .ok (vi (i % 2)) μ
  | _, _ => .fail
end Mi
namespace Mi
open PySem
/-! ### list(range(..)), tuple(range(..)); more op=; a module's table -/
def rgQ (lo hi : Int) : Bool := decide (-1000000000 < lo) && decide (lo < 1000000000) && decide (-1000000000 < hi) && decide (hi < 1000000000) && decide ((hi - lo).toNat ≤ 1000000)
def eLRg1 (a : EF) : EF := fun ρ μ => (a ρ μ).bind fun x μ1 => match x with
  | .val (.int n) => if rgQ 0 n then .ok (.new (.lst (rangeD 0 n.toNat))) μ1 else .fail
  | _ => .fail
def eLRg2 (a b : EF) : EF := fun ρ μ => (a ρ μ).bind fun x μ1 => (b ρ μ1).bind fun y μ2 => match x, y with
  | .val (.int i), .val (.int n) => if rgQ i n then .ok (.new (.lst (rangeD i (n - i).toNat))) μ2 else .fail
  | _, _ => .fail
def eTRg1 (a : EF) : EF := fun ρ μ => (a ρ μ).bind fun x μ1 => match x with
  | .val (.int n) => if rgQ 0 n then .ok (.val (.tup (rangeD 0 n.toNat))) μ1 else .fail
  | _ => .fail
def eTRg2 (a b : EF) : EF := fun ρ μ => (a ρ μ).bind fun x μ1 => (b ρ μ1).bind fun y μ2 => match x, y with
  | .val (.int i), .val (.int n) => if rgQ i n then .ok (.val (.tup (rangeD i (n - i).toNat))) μ2 else .fail
  | _, _ => .fail
def smallI (i : Int) : Bool := decide (-18446744073709551616 < i) && decide (i < 18446744073709551616)
def opMulI : O2 := fun x y μ => match x, y with
  | .val (.int i), .val (.int j) => if smallI i || smallI j then .ok (vi (i * j)) μ else .fail
  | _, _ => .fail
def opDivI : O2 := fun x y μ => match x, y with
  | .val (.int i), .val (.int j) => if decide (0 < j) && decide (j < 1073741824) then .ok (vi (i / j)) μ else .fail
  | _, _ => .fail
def lookT : List (Str × Int) → Str → Option Int
  | [], _ => none
  | (k, v) :: r, z => if k = z then some v else lookT r z
/-- X[e], X a table of the module: texts to ints -/
def eKD (tb : List (Str × Int)) (e : EF) : EF := fun ρ μ => (e ρ μ).bind fun y μ1 => match y with
  | .val (.str z) => match lookT tb z with
    | some i => .ok (vi i) μ1
    | none => .fail
  | _ => .fail
end Mi
end
section
set_option Elab.async false
set_option linter.all false
set_option maxRecDepth 100000
set_option maxHeartbeats 1000000
/-! MiB: the combinators of MiA are what the model does: how small values and heaps stand in the layer's, the judgements. -/
namespace Mi
open PySem PySem.Spec PyProof.Rows L2

/-! ### how a small value stands -/
/-- a list that nobody changes -/
def FzL (K : PySem.W.Frag) (H : Hp) (a : Addr) (vs : List V) : Prop := ∀ H' : Hp, (∀ b o u, H b = some (.frz o u) → H' b = some (.frz o u)) → SqL K H' a vs
mutual
def DR (K : PySem.W.Frag) (m : List Addr) (H : Hp) : D → V → Prop
  | .non, v => v = .non
  | .bl b, v => v = .bl b
  | .int i, v => v = .int i
  | .str s, v => v = .str s
  | .tup ds, v => ∃ a vs, v = .ref a ∧ SqT K H a vs ∧ DsR K m H ds vs
  | .fl ds, v => ∃ a vs, v = .ref a ∧ FzL K H a vs ∧ DsR K m H ds vs
  | .ref r, v => ∃ a, v = .ref a ∧ m[r]? = some a
def DsR (K : PySem.W.Frag) (m : List Addr) (H : Hp) : List D → List V → Prop
  | [], vs => vs = []
  | d :: ds, vs => ∃ v t, vs = v :: t ∧ DR K m H d v ∧ DsR K m H ds t
end
def OR (K : PySem.W.Frag) (m : List Addr) (H : Hp) (a : Addr) : Ob → Prop
  | .lst ds => ∃ vs, H a = some (.lst vs) ∧ DsR K m H ds vs
  | .fz ds => ∃ vs, H a = some (.lst vs) ∧ DsR K m H ds vs
  | _ => False
structure Rp (K : PySem.W.Frag) (m : List Addr) (H : Hp) (μ : Hq) : Prop where
  len : m.length = μ.length
  nd : m.Nodup
  ob : ∀ (r : Nat) (a : Addr) (o : Ob), m[r]? = some a → μ[r]? = some o → OR K m H a o
structure Ext (m : List Addr) (H : Hp) (μ : Hq) (m' : List Addr) (H' : Hp) (μ' : Hq) : Prop where
  pre : ∃ t, m' = m ++ t
  oth : ∀ b o, H b = some o → b ∉ m → H' b = some o
  new : ∀ b ∈ m', b ∉ m → H b = none
  lk : ∀ (r : Nat) (a : Addr) (xs : List D), m[r]? = some a → μ[r]? = some (.fz xs) → μ'[r]? = some (.fz xs) ∧ H' a = H a
structure Re (K : PySem.W.Frag) (m : List Addr) (σ : L2.St) (H : Hp) (ρ : Ev) : Prop where
  len : ρ.length = σ.length
  at_ : ∀ (i : Nat) (d : D), ρ[i]? = some (some d) → ∃ v, σ[i]? = some (some v) ∧ DR K m H d v

section
variable {K : PySem.W.Frag} {m m1 m2 m' : List Addr} {H H1 H2 H' : Hp} {μ μ1 μ2 μ' : Hq} {a b : Addr} {d : D} {ds : List D} {v : V} {vs : List V} {σ : L2.St} {ρ : Ev}

theorem Ext.refl : Ext m H μ m H μ := ⟨⟨[], by simp⟩, fun _ _ e _ => e, fun _ h n => absurd h n, fun _ _ _ _ e => ⟨e, rfl⟩⟩
theorem Rp.mem (R : Rp K m H μ) (h : a ∈ m) : ∃ xs, H a = some (.lst xs) := by
  obtain ⟨r, hr, e⟩ := List.getElem_of_mem h
  have hr' : r < μ.length := by rw [← R.len]; exact hr
  have q := R.ob r a μ[r] (by rw [List.getElem?_eq_getElem hr, e]) (by rw [List.getElem?_eq_getElem hr'])
  cases z : μ[r] <;> rw [z] at q
  · obtain ⟨vs, h1, _⟩ := q; exact ⟨vs, h1⟩
  · obtain ⟨vs, h1, _⟩ := q; exact ⟨vs, h1⟩
  · exact q.elim
  · exact q.elim
theorem Rp.tup (R : Rp K m H μ) {xs : List V} (h : H a = some (.tup xs)) : a ∉ m := fun z => by
  obtain ⟨ys, e⟩ := R.mem z
  rw [h] at e; cases e
theorem Rp.frz (R : Rp K m H μ) {o : Obj} {u : HO} (h : H a = some (.frz o u)) : a ∉ m := fun z => by
  obtain ⟨ys, e⟩ := R.mem z
  rw [h] at e; cases e
theorem Rp.fresh (R : Rp K m H μ) (h : H a = none) : a ∉ m := fun z => by
  obtain ⟨ys, e⟩ := R.mem z
  rw [h] at e; cases e
theorem Ext.sub (E : Ext m H μ m' H' μ') {r : Nat} (h : m[r]? = some a) : m'[r]? = some a := by
  obtain ⟨t, rfl⟩ := E.pre
  rw [List.getElem?_append_left (List.getElem?_eq_some_iff.mp h).1]; exact h
theorem Ext.mem (E : Ext m H μ m' H' μ') (h : a ∈ m) : a ∈ m' := by
  obtain ⟨t, rfl⟩ := E.pre
  exact List.mem_append_left _ h
theorem Ext.trans (E : Ext m H μ m1 H1 μ1) (F : Ext m1 H1 μ1 m2 H2 μ2) : Ext m H μ m2 H2 μ2 := by
  refine ⟨?_, fun b o e n => ?_, fun b hb n => ?_, fun r a xs e1 e2 => ?_⟩
  · obtain ⟨t, rfl⟩ := E.pre
    obtain ⟨u, rfl⟩ := F.pre
    exact ⟨t ++ u, by simp⟩
  · refine F.oth b o (E.oth b o e n) fun hb => ?_
    rw [E.new b hb n] at e; cases e
  · by_cases h1 : b ∈ m1
    · exact E.new b h1 n
    · cases q : H b with
      | none => rfl
      | some o =>
        have := E.oth b o q n
        rw [F.new b hb h1] at this; cases this
  · obtain ⟨f1, f2⟩ := E.lk r a xs e1 e2
    obtain ⟨g1, g2⟩ := F.lk r a xs (E.sub e1) f1
    exact ⟨g1, g2.trans f2⟩
theorem Ext.tup (E : Ext m H μ m' H' μ') (R : Rp K m H μ) {xs : List V} (h : H a = some (.tup xs)) : H' a = some (.tup xs) := E.oth a _ h (R.tup h)
theorem Ext.frz (E : Ext m H μ m' H' μ') (R : Rp K m H μ) {o : Obj} {u : HO} (h : H a = some (.frz o u)) : H' a = some (.frz o u) := E.oth a _ h (R.frz h)
theorem SqT.ext (E : Ext m H μ m' H' μ') (R : Rp K m H μ) (h : SqT K H a vs) : SqT K H' a vs := by
  rcases h with (h | ⟨o, h⟩) | h
  · exact .inl (.inl (E.tup R h))
  · exact .inl (.inr ⟨o, E.frz R h⟩)
  · exact .inr h
theorem FzL.ext (E : Ext m H μ m' H' μ') (R : Rp K m H μ) (h : FzL K H a vs) : FzL K H' a vs := fun H2 k => h H2 fun b o u e => k b o u (E.frz R e)
theorem FzL.now (h : FzL K H a vs) : SqL K H a vs := h H fun _ _ _ e => e
mutual
theorem DR.mono (hs : ∀ (r : Nat) (a : Addr), m[r]? = some a → m'[r]? = some a) (ht : ∀ a vs, SqT K H a vs → SqT K H' a vs) (hf : ∀ a vs, FzL K H a vs → FzL K H' a vs) : ∀ {d : D} {v : V}, DR K m H d v → DR K m' H' d v
  | .non, _, h => by unfold DR at h ⊢; exact h
  | .bl _, _, h => by unfold DR at h ⊢; exact h
  | .int _, _, h => by unfold DR at h ⊢; exact h
  | .str _, _, h => by unfold DR at h ⊢; exact h
  | .tup ds, _, h => by
    unfold DR at h ⊢
    obtain ⟨a, vs, e, h1, h2⟩ := h
    exact ⟨a, vs, e, ht _ _ h1, DsR.mono hs ht hf h2⟩
  | .fl ds, _, h => by
    unfold DR at h ⊢
    obtain ⟨a, vs, e, h1, h2⟩ := h
    exact ⟨a, vs, e, hf _ _ h1, DsR.mono hs ht hf h2⟩
  | .ref r, _, h => by
    unfold DR at h ⊢
    obtain ⟨a, e, h1⟩ := h
    exact ⟨a, e, hs _ _ h1⟩
theorem DsR.mono (hs : ∀ (r : Nat) (a : Addr), m[r]? = some a → m'[r]? = some a) (ht : ∀ a vs, SqT K H a vs → SqT K H' a vs) (hf : ∀ a vs, FzL K H a vs → FzL K H' a vs) : ∀ {ds : List D} {vs : List V}, DsR K m H ds vs → DsR K m' H' ds vs
  | [], _, h => by unfold DsR at h ⊢; exact h
  | d :: ds, _, h => by
    unfold DsR at h ⊢
    obtain ⟨v, t, e, h1, h2⟩ := h
    exact ⟨v, t, e, DR.mono hs ht hf h1, DsR.mono hs ht hf h2⟩
end
theorem DR.ext (E : Ext m H μ m' H' μ') (R : Rp K m H μ) (h : DR K m H d v) : DR K m' H' d v := DR.mono (fun _ _ e => E.sub e) (fun _ _ q => Mi.SqT.ext E R q) (fun _ _ q => q.ext E R) h
theorem DsR.ext (E : Ext m H μ m' H' μ') (R : Rp K m H μ) (h : DsR K m H ds vs) : DsR K m' H' ds vs := DsR.mono (fun _ _ e => E.sub e) (fun _ _ q => Mi.SqT.ext E R q) (fun _ _ q => q.ext E R) h
theorem DR.wide (u : List Addr) (h : DR K m H d v) : DR K (m ++ u) H d v := DR.mono (fun _ _ e => by rw [List.getElem?_append_left (List.getElem?_eq_some_iff.mp e).1]; exact e) (fun _ _ q => q) (fun _ _ q => q) h
theorem DsR.wide (u : List Addr) (h : DsR K m H ds vs) : DsR K (m ++ u) H ds vs := DsR.mono (fun _ _ e => by rw [List.getElem?_append_left (List.getElem?_eq_some_iff.mp e).1]; exact e) (fun _ _ q => q) (fun _ _ q => q) h
theorem OR.wide {o : Ob} (u : List Addr) (h : OR K m H a o) : OR K (m ++ u) H a o := by
  cases o with
  | lst ds => obtain ⟨vs, e, q⟩ := h; exact ⟨vs, e, q.wide u⟩
  | fz ds => obtain ⟨vs, e, q⟩ := h; exact ⟨vs, e, q.wide u⟩
  | dic _ => exact h.elim
  | fd _ => exact h.elim
theorem OR.mono {o : Ob} (hs : ∀ (r : Nat) (a : Addr), m[r]? = some a → m'[r]? = some a) (ht : ∀ a vs, SqT K H a vs → SqT K H' a vs) (hf : ∀ a vs, FzL K H a vs → FzL K H' a vs) (he : H' a = H a) (h : OR K m H a o) : OR K m' H' a o := by
  cases o with
  | lst ds => obtain ⟨vs, e, q⟩ := h; exact ⟨vs, he.trans e, q.mono hs ht hf⟩
  | fz ds => obtain ⟨vs, e, q⟩ := h; exact ⟨vs, he.trans e, q.mono hs ht hf⟩
  | dic _ => exact h.elim
  | fd _ => exact h.elim
theorem DsR.nil : DsR K m H [] [] := by unfold DsR; rfl
theorem DsR.cons (h : DR K m H d v) (t : DsR K m H ds vs) : DsR K m H (d :: ds) (v :: vs) := by unfold DsR; exact ⟨v, vs, rfl, h, t⟩
theorem DsR.nil_iff (h : DsR K m H [] vs) : vs = [] := by unfold DsR at h; exact h
theorem DsR.cons_iff (h : DsR K m H (d :: ds) vs) : ∃ v t, vs = v :: t ∧ DR K m H d v ∧ DsR K m H ds t := by unfold DsR at h; exact h
theorem DsR.length : ∀ {ds : List D} {vs : List V}, DsR K m H ds vs → ds.length = vs.length
  | [], _, h => by rw [h.nil_iff]; rfl
  | d :: ds, _, h => by
    obtain ⟨v, t, rfl, _, h2⟩ := h.cons_iff
    simp [DsR.length h2]
theorem DsR.get : ∀ {ds : List D} {vs : List V} {i : Nat} {d : D}, DsR K m H ds vs → ds[i]? = some d → ∃ v, vs[i]? = some v ∧ DR K m H d v
  | [], _, _, _, _, e => by simp at e
  | d :: ds, _, 0, _, h, e => by
    obtain ⟨v, t, rfl, h1, h2⟩ := h.cons_iff
    simp at e; subst e; exact ⟨v, rfl, h1⟩
  | d :: ds, _, i + 1, _, h, e => by
    obtain ⟨v, t, rfl, h1, h2⟩ := h.cons_iff
    obtain ⟨w, e1, e2⟩ := DsR.get (i := i) h2 (by simpa using e)
    exact ⟨w, by simpa using e1, e2⟩
theorem DsR.getV : ∀ {ds : List D} {vs : List V} {i : Nat} {v : V}, DsR K m H ds vs → vs[i]? = some v → ∃ d, ds[i]? = some d ∧ DR K m H d v
  | [], _, _, _, h, e => by rw [h.nil_iff] at e; simp at e
  | d :: ds, _, 0, _, h, e => by
    obtain ⟨v, t, rfl, h1, h2⟩ := h.cons_iff
    simp at e; subst e; exact ⟨d, rfl, h1⟩
  | d :: ds, _, i + 1, _, h, e => by
    obtain ⟨v, t, rfl, h1, h2⟩ := h.cons_iff
    obtain ⟨w, e1, e2⟩ := DsR.getV (i := i) h2 (by simpa using e)
    exact ⟨w, by simpa using e1, e2⟩
theorem DsR.append : ∀ {ds es : List D} {vs ws : List V}, DsR K m H ds vs → DsR K m H es ws → DsR K m H (ds ++ es) (vs ++ ws)
  | [], _, _, _, h, g => by rw [h.nil_iff]; exact g
  | d :: ds, _, _, _, h, g => by
    obtain ⟨v, t, rfl, h1, h2⟩ := h.cons_iff
    exact .cons h1 (DsR.append h2 g)
theorem DsR.take : ∀ {ds : List D} {vs : List V} (n : Nat), DsR K m H ds vs → DsR K m H (ds.take n) (vs.take n)
  | _, _, 0, _ => by simp; exact .nil
  | [], _, n + 1, h => by rw [h.nil_iff]; simp; exact .nil
  | d :: ds, _, n + 1, h => by
    obtain ⟨v, t, rfl, h1, h2⟩ := h.cons_iff
    exact .cons h1 (DsR.take n h2)
theorem DsR.drop : ∀ {ds : List D} {vs : List V} (n : Nat), DsR K m H ds vs → DsR K m H (ds.drop n) (vs.drop n)
  | _, _, 0, h => by simpa using h
  | [], _, n + 1, h => by rw [h.nil_iff]; simp; exact .nil
  | d :: ds, _, n + 1, h => by
    obtain ⟨v, t, rfl, h1, h2⟩ := h.cons_iff
    simpa using DsR.drop n h2
theorem DsR.set : ∀ {ds : List D} {vs : List V} (n : Nat), DsR K m H ds vs → DR K m H d v → DsR K m H (ds.set n d) (vs.set n v)
  | [], _, n, h, g => by rw [h.nil_iff]; simp; exact .nil
  | e :: ds, _, 0, h, g => by
    obtain ⟨w, t, rfl, h1, h2⟩ := h.cons_iff
    exact .cons g h2
  | e :: ds, _, n + 1, h, g => by
    obtain ⟨w, t, rfl, h1, h2⟩ := h.cons_iff
    exact .cons h1 (DsR.set n h2 g)
theorem Re.ext (E : Ext m H μ m' H' μ') (R : Rp K m H μ) (h : Re K m σ H ρ) : Re K m' σ H' ρ :=
  ⟨h.len, fun i d e => let ⟨v, e1, e2⟩ := h.at_ i d e; ⟨v, e1, e2.ext E R⟩⟩
theorem Re.set {i : Nat} (h : Re K m σ H ρ) (g : DR K m H d v) : Re K m (σ.set i (some v)) H (ρ.set i (some d)) := by
  refine ⟨by simpa using h.len, fun j e hj => ?_⟩
  by_cases z : i = j
  · subst z
    have hl : i < ρ.length := by
      have := (List.getElem?_eq_some_iff.mp hj).1
      simpa using this
    rw [List.getElem?_set_self hl] at hj
    cases hj
    exact ⟨v, List.getElem?_set_self (by rw [← h.len]; exact hl), g⟩
  · rw [List.getElem?_set_ne z] at hj
    obtain ⟨w, e1, e2⟩ := h.at_ j e hj
    exact ⟨w, by rw [List.getElem?_set_ne z]; exact e1, e2⟩
theorem wip_length (ρ : Ev) : ∀ vs : List Nat, (wip ρ vs).length = ρ.length
  | [] => rfl
  | v :: vs => by unfold wip; rw [List.length_set, wip_length ρ vs]
theorem Re.wip (h : Re K m σ H ρ) : ∀ vs : List Nat, Re K m (L2.wipe σ vs) H (wip ρ vs)
  | [] => h
  | i :: vs => by
    have ih := Re.wip h vs
    unfold L2.wipe Mi.wip
    refine ⟨by simpa using ih.len, fun j e hj => ?_⟩
    by_cases z : i = j
    · subst z
      have hl : i < (Mi.wip ρ vs).length := by
        have := (List.getElem?_eq_some_iff.mp hj).1
        simpa using this
      rw [List.getElem?_set_self hl] at hj
      cases hj
    · rw [List.getElem?_set_ne z] at hj
      obtain ⟨w, e1, e2⟩ := ih.at_ j e hj
      exact ⟨w, by rw [List.getElem?_set_ne z]; exact e1, e2⟩

/-! ### what an expression gives -/
/-- a result as it stands -/
def TC (K : PySem.W.Frag) (m : List Addr) (H : Hp) : Tv → V → Prop
  | .val d, v => DR K m H d v
  | .new (.lst ds), v => ∃ a vs, v = .ref a ∧ a ∉ m ∧ H a = some (.lst vs) ∧ DsR K m H ds vs
  | _, _ => False
/-- .. a new object being new since H -/
def Frs (H : Hp) (t : Tv) (v : V) : Prop := ∀ o a, t = .new o → v = .ref a → H a = none
def TR (K : PySem.W.Frag) (H : Hp) (m' : List Addr) (H' : Hp) (t : Tv) (v : V) : Prop := TC K m' H' t v ∧ Frs H t v
theorem Ext.back (E : Ext m H μ m' H' μ') (R' : Rp K m' H' μ') (h : H' a = none) : H a = none := by
  cases q : H a with
  | none => rfl
  | some o =>
    by_cases z : a ∈ m
    · exact absurd (E.mem z) (R'.fresh h)
    · rw [E.oth a o q z] at h; cases h
theorem TC.ext {t : Tv} (E : Ext m H μ m' H' μ') (R : Rp K m H μ) (h : TC K m H t v) : TC K m' H' t v := by
  cases t with
  | val d => exact DR.ext E R h
  | new o =>
    cases o with
    | lst ds =>
      obtain ⟨a, vs, e, n, e2, h2⟩ := h
      refine ⟨a, vs, e, fun z => ?_, E.oth a _ e2 n, h2.ext E R⟩
      rw [E.new a z n] at e2; cases e2
    | fz _ => exact h.elim
    | dic _ => exact h.elim
    | fd _ => exact h.elim
theorem Frs.back {t : Tv} (E : Ext m H μ m1 H1 μ1) (R1 : Rp K m1 H1 μ1) (h : Frs H1 t v) : Frs H t v := fun o a e1 e2 => E.back R1 (h o a e1 e2)
theorem Frs.val : Frs H (.val d) v := fun _ _ e _ => nomatch e
theorem TR.val (h : DR K m' H' d v) : TR K H m' H' (.val d) v := ⟨h, Frs.val⟩
/-- a result is given a place of the small heap -/
theorem TC.mat {t : Tv} (E : Ext m H μ m' H' μ') (R : Rp K m' H' μ') (h : TR K H m' H' t v) :
    ∃ u, Ext m H μ (m' ++ u) H' (mat t μ').2 ∧ Rp K (m' ++ u) H' (mat t μ').2 ∧ DR K (m' ++ u) H' (mat t μ').1 v := by
  cases t with
  | val d => exact ⟨[], by rw [List.append_nil]; exact ⟨E, R, h.1⟩⟩
  | new o =>
    cases o with
    | lst ds =>
      obtain ⟨⟨a, vs, rfl, n, e2, h2⟩, fr⟩ := h
      have hn : H a = none := fr _ a rfl rfl
      refine ⟨[a], ⟨?_, E.oth, fun b hb nb => ?_, fun r b xs e1 e2 => ?_⟩, ⟨by simp [Mi.mat, R.len], ?_, fun r b o e1 e3 => ?_⟩, ?_⟩
      · obtain ⟨t, rfl⟩ := E.pre
        exact ⟨t ++ [a], by simp⟩
      · rcases List.mem_append.mp hb with z | z
        · exact E.new b z nb
        · rw [List.mem_singleton.mp z]; exact hn
      · obtain ⟨q1, q2⟩ := E.lk r b xs e1 e2
        refine ⟨?_, q2⟩
        show (μ' ++ [Ob.lst ds])[r]? = _
        rw [List.getElem?_append_left (List.getElem?_eq_some_iff.mp q1).1]; exact q1
      · exact List.nodup_append.mpr ⟨R.nd, by simp, fun x hx y hy e => n (by rw [List.mem_singleton.mp hy] at e; rw [← e]; exact hx)⟩
      · have e3 : (μ' ++ [Ob.lst ds])[r]? = some o := e3
        by_cases hr : r < m'.length
        · rw [List.getElem?_append_left hr] at e1
          rw [List.getElem?_append_left (by rw [← R.len]; exact hr)] at e3
          exact (R.ob r b o e1 e3).wide [a]
        · have hr2 : r = m'.length := by
            have := (List.getElem?_eq_some_iff.mp e1).1
            simp at this; omega
          subst hr2
          rw [List.getElem?_append_right (Nat.le_refl _)] at e1
          rw [R.len, List.getElem?_append_right (Nat.le_refl _)] at e3
          simp at e1 e3
          subst e1; subst e3
          exact ⟨vs, e2, h2.wide _⟩
      · show DR K (m' ++ [a]) H' (.ref μ'.length) _
        unfold DR
        refine ⟨a, rfl, ?_⟩
        rw [← R.len, List.getElem?_append_right (Nat.le_refl _)]
        simp
    | fz _ => exact h.1.elim
    | dic _ => exact h.1.elim
    | fd _ => exact h.1.elim
end
end Mi
end
section
set_option Elab.async false
set_option linter.all false
set_option maxRecDepth 100000
set_option maxHeartbeats 1000000
/-! MiC: readings of the combinators; the layer's judgements at these readings. -/
namespace Mi
open PySem PySem.Spec PyProof.Rows L2

/-- an exception's payload: nothing, or the attribute's value -/
def PR (K : PySem.W.Frag) (m : List Addr) (H : Hp) (at_ : Str) (p : D) (dx : Option Addr) : Prop :=
  (p = .non ∧ dx = none) ∨ ∃ a v, dx = some a ∧ H a = some (.xd [(at_, v)]) ∧ DR K m H p v
/-- the class of an exception's number, its attribute -/
abbrev CT := Nat → Value × Str
abbrev WXe := Value → Option Addr → Hp → Prop
def Post {α β : Type} (rel : Hp → List Addr → Hp → α → β → Prop) (K : PySem.W.Frag) (C : CT) (W : WXe) (m : List Addr) (H : Hp) (μ : Hq) (r : R α) (Q : β → Hp → Prop) : Prop := match r with
  | .ok t μ' => ∀ m' H' v, Ext m H μ m' H' μ' → Rp K m' H' μ' → rel H m' H' t v → Q v H'
  | .exc c p μ' => ∀ m' H' dx, Ext m H μ m' H' μ' → Rp K m' H' μ' → PR K m' H' (C c).2 p dx → W (C c).1 dx H'
  | .fail => False
abbrev RelB {α β : Type} (K : PySem.W.Frag) (rel : Hp → List Addr → Hp → α → β → Prop) : Prop :=
  ∀ m H μ m1 H1 μ1 m' H' a v, Ext m H μ m1 H1 μ1 → Rp K m1 H1 μ1 → rel H1 m' H' a v → rel H m' H' a v
abbrev relB : Hp → List Addr → Hp → Bool → Bool → Prop := fun _ _ _ a b => a = b
abbrev relD (K : PySem.W.Frag) : Hp → List Addr → Hp → List D → List V → Prop := fun _ m H ds vs => DsR K m H ds vs
abbrev relE (K : PySem.W.Frag) : Hp → List Addr → Hp → Ev → L2.St → Prop := fun _ m H ρ σ => Re K m σ H ρ
section
variable {α β γ δ : Type} {rel : Hp → List Addr → Hp → α → β → Prop} {rel2 : Hp → List Addr → Hp → γ → δ → Prop} {K : PySem.W.Frag} {C : CT} {W : WXe} {m m1 : List Addr} {H H1 : Hp} {μ μ1 : Hq}
theorem relTR : RelB K (TR K) := fun _ _ _ _ _ _ _ _ _ _ E R h => ⟨h.1, Frs.back E R h.2⟩
theorem Post.mono {r : R α} {Q Q' : β → Hp → Prop} (h : Post rel K C W m H μ r Q) (k : ∀ v H', Q v H' → Q' v H') : Post rel K C W m H μ r Q' := by
  cases r with
  | ok t μ' => exact fun m' H' v E R q => k _ _ (h m' H' v E R q)
  | exc c p μ' => exact h
  | fail => exact h
theorem Post.step {r : R α} {Q : β → Hp → Prop} (hB : RelB K rel) (E : Ext m H μ m1 H1 μ1) (R1 : Rp K m1 H1 μ1) (h : Post rel K C W m H μ r Q) : Post rel K C W m1 H1 μ1 r Q := by
  cases r with
  | ok t μ' => exact fun m' H' v F R' q => h m' H' v (E.trans F) R' (hB _ _ _ _ _ _ _ _ _ _ E R1 q)
  | exc c p μ' => exact fun m' H' dx F R' q => h m' H' dx (E.trans F) R' q
  | fail => exact h
theorem Post.bind {r : R α} {f : α → Hq → R γ} {Q : δ → Hp → Prop} (hB : RelB K rel2) (h : Post rel2 K C W m H μ (r.bind f) Q) :
    Post rel K C W m H μ r (fun v H1 => ∃ m1 μ1 a, Ext m H μ m1 H1 μ1 ∧ Rp K m1 H1 μ1 ∧ rel H m1 H1 a v ∧ Post rel2 K C W m H μ (f a μ1) Q ∧ Post rel2 K C W m1 H1 μ1 (f a μ1) Q ∧ r = .ok a μ1) := by
  cases r with
  | ok t μ' => exact fun m' H' v E R q => ⟨m', μ', t, E, R, q, h, Post.step hB E R h, rfl⟩
  | exc c p μ' => exact h
  | fail => exact h
/-- a result at hand -/
theorem Post.ok {t : α} {v : β} {Q : β → Hp → Prop} (R : Rp K m H μ) (h : Post rel K C W m H μ (.ok t μ) Q) (q : rel H m H t v) : Q v H := h m H v .refl R q
end

/-! ### the judgements -/
section
variable (K : PySem.W.Frag) (C : CT) (W : WX)
def tE (f : EF) : TE := fun σ H Q => ∃ m ρ μ, Rp K m H μ ∧ Re K m σ H ρ ∧ Post (TR K) K C (fun c d H => W c d σ H) m H μ (f ρ μ) Q
def tT (f : TF) : TT := fun σ H Q => ∃ m ρ μ, Rp K m H μ ∧ Re K m σ H ρ ∧ Post relB K C (fun c d H => W c d σ H) m H μ (f ρ μ) Q
def tA (f : AF) : TA := fun σ H Q => ∃ m ρ μ, Rp K m H μ ∧ Re K m σ H ρ ∧ Post (relD K) K C (fun c d H => W c d σ H) m H μ (f ρ μ) Q
def tG (g : GF) : TG := fun v σ H Q => ∃ m ρ μ d, Rp K m H μ ∧ Re K m σ H ρ ∧ DR K m H d v ∧ Post (relE K) K C (fun c d H => W c d σ H) m H μ (g d ρ μ) Q
def tGs (g : GsF) : TGs := fun vs σ H Q => ∃ m ρ μ ds, Rp K m H μ ∧ Re K m σ H ρ ∧ DsR K m H ds vs ∧ Post (relE K) K C (fun c d H => W c d σ H) m H μ (g ds ρ μ) Q
end
section
variable {X : Cx} {e : Expr} {es : List Expr} {t t' : TE} {tt tt' : TT} {ta ta' : TA} {g g' : TG} {gs gs' : TGs}
theorem PE.imp (h : PE X e t) (i : ∀ σ H Q, t' σ H Q → t σ H Q) : PE X e t' := ⟨fun p s σ H Q I q => h.run p s σ H Q I (i _ _ _ q)⟩
theorem PT.imp (h : PT X e tt) (i : ∀ σ H Q, tt' σ H Q → tt σ H Q) : PT X e tt' := ⟨fun p s σ H Q I q => h.run p s σ H Q I (i _ _ _ q)⟩
theorem PW.imp (h : PW X e tt) (i : ∀ σ H Q, tt' σ H Q → tt σ H Q) : PW X e tt' := ⟨fun w p s σ H Q I q => h.run w p s σ H Q I (i _ _ _ q)⟩
theorem PA.imp (h : PA X es ta) (i : ∀ σ H Q, ta' σ H Q → ta σ H Q) : PA X es ta' := ⟨fun w p s σ H Q I q => h.run w p s σ H Q I (i _ _ _ q)⟩
theorem PG.imp (h : PG X e g) (i : ∀ v σ H Q, g' v σ H Q → g v σ H Q) : PG X e g' := ⟨fun p s σ H v u Q I r q => h.run p s σ H v u Q I r (i _ _ _ _ q)⟩
theorem PGs.imp (h : PGs X es gs) (i : ∀ v σ H Q, gs' v σ H Q → gs v σ H Q) : PGs X es gs' := ⟨fun p s σ H v u Q I r q => h.run p s σ H v u Q I r (i _ _ _ _ q)⟩
end

section
variable {X : Cx} {C : CT} {W : WX} {a b : Expr} {fa fb : EF} {es : List Expr} {as : AF} {pos : Pos}

/-! ### operators -/
/-- what a layer's rule asks of two values, from a combinator's operator -/
def Op2 (K : PySem.W.Frag) (op : O2) (r : R2) : Prop := ∀ (C : CT) (W : WXe) m H μ x y v1 v2 Q, Rp K m H μ → TC K m H x v1 → TC K m H y v2 → Post (TR K) K C W m H μ (op x y μ) Q → r v1 v2 H Q
def Op1 (K : PySem.W.Frag) (op : O1) (r : V → Hp → VK → Prop) : Prop := ∀ (C : CT) (W : WXe) m H μ x v1 Q, Rp K m H μ → TC K m H x v1 → Post (TR K) K C W m H μ (op x μ) Q → r v1 H Q
theorem e2_to {K : PySem.W.Frag} {op : O2} {r : R2} {σ : L2.St} {H : Hp} {Q : VK} (ho : Op2 K op r) (h : tE K C W (e2 op fa fb) σ H Q) : tE K C W fa σ H fun x H1 => tE K C W fb σ H1 fun y H2 => r x y H2 Q := by
  obtain ⟨m, ρ, μ, R0, E0, P⟩ := h
  refine ⟨m, ρ, μ, R0, E0, (Post.bind relTR P).mono fun v H1 ⟨m1, μ1, x, E, R1, T1, _, P1, _⟩ => ?_⟩
  refine ⟨m1, ρ, μ1, R1, E0.ext E R0, (Post.bind relTR P1).mono fun w H2 ⟨m2, μ2, y, F, R2', T2, _, P2, _⟩ => ?_⟩
  exact ho C _ m2 H2 μ2 x y v w Q R2' (T1.1.ext F R1) T2.1 P2
theorem e1_to {K : PySem.W.Frag} {op : O1} {r : V → Hp → VK → Prop} {σ : L2.St} {H : Hp} {Q : VK} (ho : Op1 K op r) (h : tE K C W (e1 op fa) σ H Q) : tE K C W fa σ H fun x H1 => r x H1 Q := by
  obtain ⟨m, ρ, μ, R0, E0, P⟩ := h
  exact ⟨m, ρ, μ, R0, E0, (Post.bind relTR P).mono fun v H1 ⟨m1, μ1, x, E, R1, T1, _, P1, _⟩ => ho C _ m1 H1 μ1 x v Q R1 T1.1 P1⟩
theorem ev_bin {o : Operator} {op : O2} {r : R2} (hr : OpR X (binaryOp o) r) (ho : Op2 X.K op r) (ha : PE X a (tE X.K C W fa)) (hb : PE X b (tE X.K C W fb)) : PE X (.BinOp a o b pos) (tE X.K C W (e2 op fa fb)) :=
  PE.imp (pe_op hr ha hb) fun _ _ _ h => e2_to ho h
theorem ev_cmp {o : CmpOp} {op : O2} {r : R2} (hr : OpR X (compareOp o) r) (ho : Op2 X.K op r) (ha : PE X a (tE X.K C W fa)) (hb : PE X b (tE X.K C W fb)) (hm : behindInMarks o b = false) : PE X (.Compare a [o] [b] pos) (tE X.K C W (e2 op fa fb)) :=
  PE.imp (pe_cmpR hr ha hb hm) fun _ _ _ h => e2_to ho h
theorem ev_un {o : UnaryOp} {op : O1} {r : V → Hp → VK → Prop} (hr : UnR X (unaryOp o) r) (ho : Op1 X.K op r) (ha : PE X a (tE X.K C W fa)) : PE X (.UnaryOp o a pos) (tE X.K C W (e1 op fa)) :=
  PE.imp (pe_un hr ha) fun _ _ _ h => e1_to ho h

/-! ### names and constants -/
theorem ev_var (i : Nat) {x : Str} (hN : X.N[i]? = some x) (hv : Vis X.env.scope x) (hd : (x == ("__debug__" : Str)) = false := by decide) (hcd : (x == ("__classdict__" : Str)) = false := by decide) : PE X (.Name x pos) (tE X.K C W (eVar i)) := by
  refine PE.imp (pe_var hN hv hd hcd) fun σ H Q h => ?_
  obtain ⟨m, ρ, μ, R0, E0, P⟩ := h
  unfold eVar at P
  cases q : ρ[i]? with
  | none => rw [q] at P; exact P.elim
  | some o =>
    cases o with
    | none => rw [q] at P; exact P.elim
    | some d =>
      rw [q] at P
      obtain ⟨v, e1, e2⟩ := E0.at_ i d q
      exact ⟨v, e1, Post.ok R0 P (TR.val e2)⟩
theorem c_to {K : PySem.W.Frag} {d : D} {v : V} {σ : L2.St} {H : Hp} {Q : VK} (hd : ∀ m H, DR K m H d v) (h : tE K C W (eC d) σ H Q) : Q v H := by
  obtain ⟨m, ρ, μ, R0, E0, P⟩ := h
  exact Post.ok R0 P (TR.val (hd m H))
theorem ev_int {i : Int} {j} : PE X (.Constant (.int i) j pos) (tE X.K C W (eC (.int i))) := PE.imp pe_int fun _ _ _ h => c_to (fun _ _ => by unfold DR; rfl) h
theorem ev_bl {i : Bool} {j} : PE X (.Constant (.bool i) j pos) (tE X.K C W (eC (.bl i))) := PE.imp pe_bl fun _ _ _ h => c_to (fun _ _ => by unfold DR; rfl) h
theorem ev_non {j} : PE X (.Constant .none j pos) (tE X.K C W (eC .non)) := PE.imp pe_non fun _ _ _ h => c_to (fun _ _ => by unfold DR; rfl) h
theorem ev_str {i : Str} {j} : PE X (.Constant (.str i) j pos) (tE X.K C W (eC (.str i))) := PE.imp pe_str fun _ _ _ h => c_to (fun _ _ => by unfold DR; rfl) h
/-- a module's constant -/
theorem ev_glob {x : Str} {d : D} {v : V} {u : Value} (hg : Gl X x) (hm : X.mg x = some u) (r : RelV v u) (hd : ∀ m H, DR X.K m H d v) (hdb : (x == ("__debug__" : Str)) = false := by decide) : PE X (.Name x pos) (tE X.K C W (eC d)) :=
  PE.imp (pe_glob hg hm r hdb) fun _ _ _ h => c_to hd h

/-! ### argument lists, displays -/
theorem av_nil : PA X [] (tA X.K C W aNil) := PA.imp pa_nil fun σ H Q h => by
  obtain ⟨m, ρ, μ, R0, E0, P⟩ := h
  exact Post.ok R0 P DsR.nil
theorem av_cons (ha : PE X a (tE X.K C W fa)) (hr : PA X es (tA X.K C W as)) (hs : starEach (a :: es) X.env = (false, eval a X.env) :: starEach es X.env := by rfl) : PA X (a :: es) (tA X.K C W (aCons fa as)) := by
  refine PA.imp (pa_cons ha hr hs) fun σ H Q h => ?_
  obtain ⟨m, ρ, μ, R0, E0, P⟩ := h
  refine ⟨m, ρ, μ, R0, E0, (Post.bind (fun _ _ _ _ _ _ _ _ _ _ _ _ h => h) P).mono fun v H1 ⟨m1, μ1, t, E, R1, T1, P00, P1, _⟩ => ?_⟩
  obtain ⟨u, E2, R2', D2⟩ := TC.mat E R1 T1
  have P0 : Post (relD X.K) X.K C (fun c d H => W c d σ H) (m1 ++ u) H1 (mat t μ1).2 ((as ρ (mat t μ1).2).bind fun ds μ2 => R.ok ((mat t μ1).1 :: ds) μ2) Q := by
    exact Post.step (fun _ _ _ _ _ _ _ _ _ _ _ _ h => h) E2 R2' P00
  refine ⟨m1 ++ u, ρ, (mat t μ1).2, R2', E0.ext E2 R0, (Post.bind (fun _ _ _ _ _ _ _ _ _ _ _ _ h => h) P0).mono fun vs H2 ⟨m2, μ2, ds, F, R3, T3, _, P2, _⟩ => ?_⟩
  exact Post.ok R3 P2 (.cons (D2.ext F R2') T3)
theorem SqT.laid {K : PySem.W.Frag} {H : Hp} {p a : Addr} {o : HO} {vs : List V} (hn : H p = none) (h : SqT K H a vs) : SqT K (upd H p o) a vs := by
  rcases h with (h | ⟨u, h⟩) | h
  · exact .inl (.inl (by rw [upd_ne (ne_of_none h hn)]; exact h))
  · exact .inl (.inr ⟨u, by rw [upd_ne (ne_of_none h hn)]; exact h⟩)
  · exact .inr h
theorem FzL.laid {K : PySem.W.Frag} {H : Hp} {p a : Addr} {o : HO} {vs : List V} (hn : H p = none) (h : FzL K H a vs) : FzL K (upd H p o) a vs := fun H2 k => h H2 fun b u w e => k b u w (by rw [upd_ne (ne_of_none e hn)]; exact e)
/-- a new object is tracked, the small heap is as it was -/
theorem Ext.laid {K : PySem.W.Frag} {m : List Addr} {H : Hp} {μ : Hq} {p : Addr} {o : HO} (R : Rp K m H μ) (hn : H p = none) : Ext m H μ m (upd H p o) μ :=
  ⟨⟨[], by simp⟩, fun b u e _ => by rw [upd_ne (ne_of_none e hn)]; exact e, fun b hb n => absurd hb n, fun r a xs e1 e2 => ⟨e2, by
    obtain ⟨ys, q⟩ := R.mem (List.mem_of_getElem? e1)
    exact upd_ne (ne_of_none q hn)⟩⟩
theorem Rp.laid {K : PySem.W.Frag} {m : List Addr} {H : Hp} {μ : Hq} {p : Addr} {o : HO} (R : Rp K m H μ) (hn : H p = none) : Rp K m (upd H p o) μ :=
  ⟨R.len, R.nd, fun r a u e1 e2 => OR.mono (fun _ _ e => e) (fun _ _ q => Mi.SqT.laid hn q) (fun _ _ q => q.laid hn) (by
    obtain ⟨ys, q⟩ := R.mem (List.mem_of_getElem? e1)
    exact upd_ne (ne_of_none q hn)) (R.ob r a u e1 e2)⟩
theorem big_line {n : Nat} (h : n ≤ 1000000) : n ≤ sizeLine := Nat.le_trans h (by decide)
theorem big_line' {n : Nat} (h : n ≤ 1000000) : n < sizeLine := Nat.lt_of_le_of_lt h (by decide)
theorem cap_post {α β : Type} {rel : Hp → List Addr → Hp → α → β → Prop} {K : PySem.W.Frag} {C : CT} {W : WXe} {m : List Addr} {H : Hp} {μ : Hq} {n : Nat} {r : R α} {Q : β → Hp → Prop} (h : Post rel K C W m H μ (cap n r) Q) : n ≤ 1000000 ∧ Post rel K C W m H μ r Q := by
  unfold cap at h
  by_cases z : n ≤ 1000000
  · rw [if_pos z] at h; exact ⟨z, h⟩
  · rw [if_neg z] at h; exact h.elim
/-- a new tuple handed back -/
theorem new_tup {K : PySem.W.Frag} {C : CT} {W : WXe} {m : List Addr} {H : Hp} {μ : Hq} {ds : List D} {vs : List V} {Q : VK} {p : Addr} (R : Rp K m H μ) (hd : DsR K m H ds vs) (h : Post (TR K) K C W m H μ (.ok (.val (.tup ds)) μ) Q) (hn : H p = none) : Q (.ref p) (upd H p (.tup vs)) := by
  have E : Ext m H μ m (upd H p (.tup vs)) μ := Ext.laid R hn
  refine h m _ _ E (R.laid hn) (TR.val ?_)
  unfold DR
  exact ⟨p, vs, rfl, .inl (.inl upd_same), hd.ext E R⟩
/-- a new list handed back -/
theorem new_lst {K : PySem.W.Frag} {C : CT} {W : WXe} {m : List Addr} {H : Hp} {μ : Hq} {ds : List D} {vs : List V} {Q : VK} {p : Addr} (R : Rp K m H μ) (hd : DsR K m H ds vs) (h : Post (TR K) K C W m H μ (.ok (.new (.lst ds)) μ) Q) (hn : H p = none) : Q (.ref p) (upd H p (.lst vs)) := by
  have E : Ext m H μ m (upd H p (.lst vs)) μ := Ext.laid R hn
  exact h m _ _ E (R.laid hn) ⟨⟨p, vs, rfl, R.fresh hn, upd_same, hd.ext E R⟩, fun o a _ e => by cases e; exact hn⟩
theorem ev_tup {k : Nat} (h : PA X es (tA X.K C W as)) : PE X (.Tuple es k pos) (tE X.K C W (eTup as)) := by
  refine PE.imp (pe_tup h) fun σ H Q h => ?_
  obtain ⟨m, ρ, μ, R0, E0, P⟩ := h
  refine ⟨m, ρ, μ, R0, E0, (Post.bind relTR P).mono fun vs H1 ⟨m1, μ1, ds, E, R1, T1, _, P1, _⟩ => ?_⟩
  obtain ⟨hz, P1⟩ := cap_post P1
  exact ⟨by rw [← T1.length]; exact big_line hz, fun p hn => new_tup R1 T1 P1 hn⟩
theorem ev_lst (h : PA X es (tA X.K C W as)) : PE X (.List es pos) (tE X.K C W (eLst as)) := by
  refine PE.imp (pe_lst h) fun σ H Q h => ?_
  obtain ⟨m, ρ, μ, R0, E0, P⟩ := h
  refine ⟨m, ρ, μ, R0, E0, (Post.bind relTR P).mono fun vs H1 ⟨m1, μ1, ds, E, R1, T1, _, P1, _⟩ => ?_⟩
  obtain ⟨hz, P1⟩ := cap_post P1
  exact ⟨by rw [← T1.length]; exact big_line hz, fun p hn => new_lst R1 T1 P1 hn⟩

/-! ### sequences at hand -/
theorem lq_TC {K : PySem.W.Frag} {m : List Addr} {H : Hp} {μ : Hq} {t : Tv} {v : V} {xs : List D} (R : Rp K m H μ) (h : TC K m H t v) (e : lq μ t = some xs) : ∃ a vs, v = .ref a ∧ SqL K H a vs ∧ DsR K m H xs vs := by
  unfold lq at e
  split at e
  · rename_i r
    have h : DR K m H (.ref r) v := h
    unfold DR at h
    obtain ⟨a, ev, h1⟩ := h
    cases q : μ[r]? with
    | none => rw [q] at e; cases e
    | some o =>
      rw [q] at e
      have ob := R.ob r a o h1 q
      cases o with
      | lst ys => obtain ⟨vs, e2, e3⟩ := ob; cases e; exact ⟨a, vs, ev, .of e2, e3⟩
      | fz ys => obtain ⟨vs, e2, e3⟩ := ob; cases e; exact ⟨a, vs, ev, .of e2, e3⟩
      | dic _ => cases e
      | fd _ => cases e
  · cases e
    have h : DR K m H (.fl xs) v := h
    unfold DR at h
    obtain ⟨a, vs, e, h1, h2⟩ := h
    exact ⟨a, vs, e, h1.now, h2⟩
  · cases e
    obtain ⟨a, vs, ev, _, e2, e3⟩ := h
    exact ⟨a, vs, ev, .of e2, e3⟩
  · cases e
theorem tup_TC {K : PySem.W.Frag} {m : List Addr} {H : Hp} {xs : List D} {v : V} (h : TC K m H (.val (.tup xs)) v) : ∃ a vs, v = .ref a ∧ SqT K H a vs ∧ DsR K m H xs vs := by
  have h : DR K m H (.tup xs) v := h
  unfold DR at h; exact h
theorem int_TC {K : PySem.W.Frag} {m : List Addr} {H : Hp} {i : Int} {v : V} (h : TC K m H (.val (.int i)) v) : v = .int i := by
  have h : DR K m H (.int i) v := h
  unfold DR at h; exact h
theorem bl_TC {K : PySem.W.Frag} {m : List Addr} {H : Hp} {i : Bool} {v : V} (h : TC K m H (.val (.bl i)) v) : v = .bl i := by
  have h : DR K m H (.bl i) v := h
  unfold DR at h; exact h
theorem str_TC {K : PySem.W.Frag} {m : List Addr} {H : Hp} {i : Str} {v : V} (h : TC K m H (.val (.str i)) v) : v = .str i := by
  have h : DR K m H (.str i) v := h
  unfold DR at h; exact h
theorem non_TC {K : PySem.W.Frag} {m : List Addr} {H : Hp} {v : V} (h : TC K m H (.val .non) v) : v = .non := by
  have h : DR K m H .non v := h
  unfold DR at h; exact h
theorem sq_TC {K : PySem.W.Frag} {m : List Addr} {H : Hp} {μ : Hq} {t : Tv} {v : V} {xs : List D} (R : Rp K m H μ) (h : TC K m H t v) (e : sq μ t = some xs) : ∃ a vs, v = .ref a ∧ (SqL K H a vs ∨ SqT K H a vs) ∧ DsR K m H xs vs := by
  unfold sq at e
  split at e
  · cases e
    obtain ⟨a, vs, ev, h1, h2⟩ := tup_TC h
    exact ⟨a, vs, ev, .inr h1, h2⟩
  · obtain ⟨a, vs, ev, h1, h2⟩ := lq_TC (μ := μ) R h e
    exact ⟨a, vs, ev, .inl h1, h2⟩
theorem DsR.isEmpty {K : PySem.W.Frag} {m : List Addr} {H : Hp} {ds : List D} {vs : List V} (h : DsR K m H ds vs) : vs.isEmpty = ds.isEmpty := by
  have := h.length
  cases ds <;> cases vs <;> simp_all
/-! ### truth -/
theorem tru_TC {K : PySem.W.Frag} {m : List Addr} {H : Hp} {μ : Hq} {t : Tv} {v : V} {k : Bool} (R : Rp K m H μ) (h : TC K m H t v) (e : tru μ t = some k) : TruV K v H k := by
  unfold tru at e
  split at e
  · cases e; rw [non_TC h]; rfl
  · cases e; rw [bl_TC h]; rfl
  · cases e; rw [int_TC h]; rfl
  · rename_i s
    split at e
    · rename_i hz
      cases e; rw [str_TC h]
      refine ⟨big_line hz, ?_⟩
      cases q : s.length with
      | zero => rfl
      | succ n => simp; omega
    · cases e
  · split at e
    · rename_i xs hs
      cases e
      obtain ⟨a, vs, rfl, h1, h2⟩ := sq_TC R h hs
      rcases h1 with h1 | h1
      · exact .inl ⟨vs, h1, by rw [h2.isEmpty]⟩
      · exact .inr (.inl ⟨vs, h1, by rw [h2.isEmpty]⟩)
    · cases e
theorem tv_of {e : Expr} {fe : EF} (he : PE X e (tE X.K C W fe)) (hp : ∀ whole, isTrue e X.env whole = (do let v ← whole; standAt e.pos; holding [v] (truthy v)) := by intro _; rfl) : PT X e (tT X.K C W (tV fe)) := by
  refine PT.imp (pt_truth he hp) fun σ H Q h => ?_
  obtain ⟨m, ρ, μ, R0, E0, P⟩ := h
  refine ⟨m, ρ, μ, R0, E0, (Post.bind (fun _ _ _ _ _ _ _ _ _ _ _ _ h => h) P).mono fun v H1 ⟨m1, μ1, t, E, R1, T1, _, P1, _⟩ => ?_⟩
  cases q : tru μ1 t with
  | none => rw [q] at P1; exact P1.elim
  | some k =>
    rw [q] at P1
    exact ⟨k, tru_TC R1 T1.1 q, Post.ok R1 P1 rfl⟩
end
end Mi
end
section
set_option Elab.async false
set_option linter.all false
set_option maxRecDepth 100000
set_option maxHeartbeats 1000000
/-! MiD: tests, built-ins, subscripts, calls. -/
namespace Mi
open PySem PySem.Spec PyProof.Rows L2
abbrev trivB {α β : Type} {rel : List Addr → Hp → α → β → Prop} {K : PySem.W.Frag} : RelB K (fun (_ : Hp) m H a b => rel m H a b) := fun _ _ _ _ _ _ _ _ _ _ _ _ h => h
theorem relBB {K : PySem.W.Frag} : RelB K relB := fun _ _ _ _ _ _ _ _ _ _ _ _ h => h
theorem relDB {K : PySem.W.Frag} : RelB K (relD K) := fun _ _ _ _ _ _ _ _ _ _ _ _ h => h
theorem relEB {K : PySem.W.Frag} : RelB K (relE K) := fun _ _ _ _ _ _ _ _ _ _ _ _ h => h
section
variable {X : Cx} {C : CT} {W : WX} {a b c : Expr} {fa fb : EF} {fc fr : TF} {es rest : List Expr} {as : AF} {pos : Pos}

/-! ### and, or, not as tests -/
theorem tv_not (h : PT X a (tT X.K C W fc)) : PT X (.UnaryOp .Not a pos) (tT X.K C W (tNot fc)) := by
  refine PT.imp (pt_not h) fun σ H Q h => ?_
  obtain ⟨m, ρ, μ, R0, E0, P⟩ := h
  refine ⟨m, ρ, μ, R0, E0, (Post.bind relBB P).mono fun v H1 ⟨m1, μ1, k, E, R1, T1, P0, P1, ex⟩ => ?_⟩
  subst T1
  exact Post.ok R1 P1 rfl
theorem tv_and1 (h : PT X a (tT X.K C W fc)) : PW X (.BoolOp .And [a] pos) (tT X.K C W fc) := pw_and1 h
theorem tv_or1 (h : PT X a (tT X.K C W fc)) : PW X (.BoolOp .Or [a] pos) (tT X.K C W fc) := pw_or1 h
theorem tv_and (h : PT X a (tT X.K C W fc)) (g : PW X (.BoolOp .And (b :: rest) pos) (tT X.K C W fr)) : PW X (.BoolOp .And (a :: b :: rest) pos) (tT X.K C W (tAnd fc fr)) := by
  refine PW.imp (pw_and h g) fun σ H Q h => ?_
  obtain ⟨m, ρ, μ, R0, E0, P⟩ := h
  refine ⟨m, ρ, μ, R0, E0, (Post.bind relBB P).mono fun v H1 ⟨m1, μ1, k, E, R1, T1, P0, P1, ex⟩ => ?_⟩
  subst T1
  cases k with
  | true => exact iteT ⟨m1, ρ, μ1, R1, E0.ext E R0, P1⟩
  | false => exact iteF (Post.ok R1 P1 rfl)
theorem tv_or (h : PT X a (tT X.K C W fc)) (g : PW X (.BoolOp .Or (b :: rest) pos) (tT X.K C W fr)) : PW X (.BoolOp .Or (a :: b :: rest) pos) (tT X.K C W (tOr fc fr)) := by
  refine PW.imp (pw_or h g) fun σ H Q h => ?_
  obtain ⟨m, ρ, μ, R0, E0, P⟩ := h
  refine ⟨m, ρ, μ, R0, E0, (Post.bind relBB P).mono fun v H1 ⟨m1, μ1, k, E, R1, T1, P0, P1, ex⟩ => ?_⟩
  subst T1
  cases k with
  | true => exact iteT (Post.ok R1 P1 rfl)
  | false => exact iteF ⟨m1, ρ, μ1, R1, E0.ext E R0, P1⟩
/-- an operator whose answers are True or False -/
def BlOp (op : O2) : Prop := ∀ x y μ t μ', op x y μ = .ok t μ' → ∃ k, t = vb k
/-- a comparison as a test -/
theorem tv_cmp {o : CmpOp} {op : O2} {r : R2} (hr : OpR X (compareOp o) r) (ho : Op2 X.K op r) (hb' : BlOp op)
    (ha : PE X a (tE X.K C W fa)) (hb : PE X b (tE X.K C W fb)) (hm : behindInMarks o b = false) : PT X (.Compare a [o] [b] pos) (tT X.K C W (tV (e2 op fa fb))) := by
  refine PT.imp (pt_cmpR hr ha hb hm) fun σ H Q h => ?_
  obtain ⟨m, ρ, μ, R0, E0, P⟩ := h
  have P' : Post (TR X.K) X.K C (fun c d H => W c d σ H) m H μ (e2 op fa fb ρ μ) fun z H' => ∃ k, z = .bl k ∧ Q k H' := by
    refine (Post.bind relBB P).mono fun v H1 ⟨m1, μ1, t, E, R1, T1, P0, P1, ex⟩ => ?_
    obtain ⟨k, rfl⟩ : ∃ k, t = vb k := by
      unfold e2 at ex
      cases q : fa ρ μ with
      | ok x μ2 =>
        rw [q] at ex
        cases q2 : fb ρ μ2 with
        | ok y μ3 =>
          have ex : (fb ρ μ2).bind (fun y μ2 => op x y μ2) = R.ok t μ1 := ex
          rw [q2] at ex; exact hb' x y μ3 t μ1 ex
        | exc _ _ _ =>
          have ex : (fb ρ μ2).bind (fun y μ2 => op x y μ2) = R.ok t μ1 := ex
          rw [q2] at ex; cases ex
        | fail =>
          have ex : (fb ρ μ2).bind (fun y μ2 => op x y μ2) = R.ok t μ1 := ex
          rw [q2] at ex; cases ex
      | exc _ _ _ => rw [q] at ex; cases ex
      | fail => rw [q] at ex; cases ex
    exact ⟨k, bl_TC T1.1, Post.ok R1 P1 rfl⟩
  exact e2_to ho ⟨m, ρ, μ, R0, E0, P'⟩
theorem ev_if (hc : PT X c (tT X.K C W fc)) (ha : PE X a (tE X.K C W fa)) (hb : PE X b (tE X.K C W fb)) : PE X (.IfExp c a b pos) (tE X.K C W (eIf fc fa fb)) := by
  refine PE.imp (pe_ifExp hc ha hb) fun σ H Q h => ?_
  obtain ⟨m, ρ, μ, R0, E0, P⟩ := h
  refine ⟨m, ρ, μ, R0, E0, (Post.bind relTR P).mono fun v H1 ⟨m1, μ1, k, E, R1, T1, P0, P1, ex⟩ => ?_⟩
  subst T1
  cases k with
  | true => exact iteT ⟨m1, ρ, μ1, R1, E0.ext E R0, P1⟩
  | false => exact iteF ⟨m1, ρ, μ1, R1, E0.ext E R0, P1⟩
theorem ev_and1 (h : PE X a (tE X.K C W fa)) : PE X (.BoolOp .And [a] pos) (tE X.K C W fa) := pe_one h
theorem ev_or1 (h : PE X a (tE X.K C W fa)) : PE X (.BoolOp .Or [a] pos) (tE X.K C W fa) := pe_one h
theorem ev_and (h : PE X a (tE X.K C W fa)) (g : PE X (.BoolOp .And (b :: rest) pos) (tE X.K C W fb)) : PE X (.BoolOp .And (a :: b :: rest) pos) (tE X.K C W (eAnd fa fb)) := by
  refine PE.imp (pe_andT h g) fun σ H Q h => ?_
  obtain ⟨m, ρ, μ, R0, E0, P⟩ := h
  refine ⟨m, ρ, μ, R0, E0, (Post.bind relTR P).mono fun v H1 ⟨m1, μ1, t, E, R1, T1, P0, P1, ex⟩ => ?_⟩
  cases q : tru μ1 t with
  | none => rw [q] at P1; exact P1.elim
  | some k =>
    rw [q] at P1 P0
    refine ⟨k, tru_TC R1 T1.1 q, ?_⟩
    cases k with
    | true => exact iteT ⟨m1, ρ, μ1, R1, E0.ext E R0, P1⟩
    | false => exact iteF (P0 m1 H1 v E R1 T1)
theorem ev_or (h : PE X a (tE X.K C W fa)) (g : PE X (.BoolOp .Or (b :: rest) pos) (tE X.K C W fb)) : PE X (.BoolOp .Or (a :: b :: rest) pos) (tE X.K C W (eOr fa fb)) := by
  refine PE.imp (pe_orT h g) fun σ H Q h => ?_
  obtain ⟨m, ρ, μ, R0, E0, P⟩ := h
  refine ⟨m, ρ, μ, R0, E0, (Post.bind relTR P).mono fun v H1 ⟨m1, μ1, t, E, R1, T1, P0, P1, ex⟩ => ?_⟩
  cases q : tru μ1 t with
  | none => rw [q] at P1; exact P1.elim
  | some k =>
    rw [q] at P1 P0
    refine ⟨k, tru_TC R1 T1.1 q, ?_⟩
    cases k with
    | true => exact iteT (P0 m1 H1 v E R1 T1)
    | false => exact iteF ⟨m1, ρ, μ1, R1, E0.ext E R0, P1⟩
theorem bl_TR {K : PySem.W.Frag} {H H' : Hp} {m' : List Addr} {k : Bool} : TR K H m' H' (vb k) (.bl k) := TR.val (by unfold DR; rfl)
theorem int_TR {K : PySem.W.Frag} {H H' : Hp} {m' : List Addr} {k : Int} : TR K H m' H' (vi k) (.int k) := TR.val (by unfold DR; rfl)
theorem str_TR {K : PySem.W.Frag} {H H' : Hp} {m' : List Addr} {k : Str} : TR K H m' H' (.val (.str k)) (.str k) := TR.val (by unfold DR; rfl)
theorem non_TR {K : PySem.W.Frag} {H H' : Hp} {m' : List Addr} : TR K H m' H' (.val .non) .non := TR.val (by unfold DR; rfl)
theorem ev_not (h : PE X a (tE X.K C W fa)) : PE X (.UnaryOp .Not a pos) (tE X.K C W (eNot fa)) := by
  refine PE.imp (pe_notT h) fun σ H Q h => ?_
  obtain ⟨m, ρ, μ, R0, E0, P⟩ := h
  refine ⟨m, ρ, μ, R0, E0, (Post.bind relTR P).mono fun v H1 ⟨m1, μ1, t, E, R1, T1, P0, P1, ex⟩ => ?_⟩
  cases q : tru μ1 t with
  | none => rw [q] at P1; exact P1.elim
  | some k => rw [q] at P1; exact ⟨k, tru_TC R1 T1.1 q, Post.ok R1 P1 bl_TR⟩

/-! ### built-ins of one argument -/
theorem ev_b1 {id : String} {x : Str} {p : Pos} {r : List V → Hp → VK → Prop} {op : O1} (hc : CallR X (.builtin id) r) (ho : Op1 X.K op fun v H Q => r [v] H Q) (hg : Gl X x) (hm : X.mg x = none) (hv : bootBuiltins x = some (.builtin id)) (ha : PE X a (tE X.K C W fa))
    (hn : x ≠ "__name__" := by decide) (hdb : (x == ("__debug__" : Str)) = false := by decide) (he : starEach [a] X.env = (false, eval a X.env) :: starEach [] X.env := by rfl) (hpl : (backTo pos (starEach [] X.env)).any (·.1) = false := by rfl) :
    PE X (.Call (.Name x p) [a] [] pos) (tE X.K C W (e1 op fa)) :=
  PE.imp (pe_callB hc hg hm hv (pa_cons ha pa_nil he) hn hdb he hpl) fun _ _ _ h => e1_to ho h
theorem ev_t1 {T : String} {x : Str} {p : Pos} {r : List V → Hp → VK → Prop} {op : O1} (hc : CallR X (.type T) r) (ho : Op1 X.K op fun v H Q => r [v] H Q) (hg : Gl X x) (hm : X.mg x = none) (hv : bootBuiltins x = some (.type T)) (ha : PE X a (tE X.K C W fa))
    (hn : x ≠ "__name__" := by decide) (hdb : (x == ("__debug__" : Str)) = false := by decide) (he : starEach [a] X.env = (false, eval a X.env) :: starEach [] X.env := by rfl) (hpl : (backTo pos (starEach [] X.env)).any (·.1) = false := by rfl) :
    PE X (.Call (.Name x p) [a] [] pos) (tE X.K C W (e1 op fa)) :=
  PE.imp (pe_callTy hc hg hm hv (pa_cons ha pa_nil he) hn hdb he hpl) fun _ _ _ h => e1_to ho h
end

/-! ### what each operator is -/
section
variable {K : PySem.W.Frag}
theorem o_abs : Op1 K opAbs fun v H Q => ∃ i, [v] = [V.int i] ∧ Q (.int (if i < 0 then -i else i)) H := by
  intro C W m H μ x v Q R T P
  unfold opAbs at P
  split at P
  · exact ⟨_, by rw [int_TC T], Post.ok R P int_TR⟩
  · exact P.elim
theorem o_int : Op1 K opInt fun v H Q => (∃ i, [v] = [V.int i] ∧ Q (.int i) H) ∨ ∃ k, [v] = [V.bl k] ∧ Q (.int (if k then 1 else 0)) H := by
  intro C W m H μ x v Q R T P
  unfold opInt at P
  split at P
  · exact .inl ⟨_, by rw [int_TC T], Post.ok R P int_TR⟩
  · exact .inr ⟨_, by rw [bl_TC T], Post.ok R P int_TR⟩
  · exact P.elim
theorem o_len : Op1 K opLen fun v H Q => ∃ x n, [v] = [x] ∧ LenV K x H n ∧ Q (.int n) H := by
  intro C W m H μ x v Q R T P
  unfold opLen at P
  split at P
  · obtain ⟨hz, P⟩ := cap_post P
    exact ⟨_, _, rfl, by rw [str_TC T]; exact ⟨big_line hz, rfl⟩, Post.ok R P int_TR⟩
  · split at P
    · rename_i xs hs
      obtain ⟨a, vs, rfl, h1, h2⟩ := sq_TC R T hs
      refine ⟨_, xs.length, rfl, ?_, Post.ok R P int_TR⟩
      rcases h1 with h1 | h1
      · exact .inl ⟨vs, h1, h2.length⟩
      · exact .inr ⟨vs, h1, h2.length⟩
    · exact P.elim
theorem nums_DsR {m : List Addr} {H : Hp} : ∀ {ds : List D} {vs : List V} {ns : List Int}, nums ds = some ns → DsR K m H ds vs → vs = ns.map V.int
  | [], vs, ns, e, h => by unfold nums at e; cases e; rw [h.nil_iff]; rfl
  | d :: ds, vs, ns, e, h => by
    obtain ⟨v, t, rfl, h1, h2⟩ := h.cons_iff
    cases d <;> unfold nums at e <;> try cases e
    cases q : nums ds with
    | none => rw [q] at e; cases e
    | some r =>
      rw [q] at e; cases e
      unfold DR at h1
      rw [h1, nums_DsR q h2]; rfl
theorem bls_DsR {m : List Addr} {H : Hp} : ∀ {ds : List D} {vs : List V} {ns : List Bool}, bls ds = some ns → DsR K m H ds vs → vs = ns.map V.bl
  | [], vs, ns, e, h => by unfold bls at e; cases e; rw [h.nil_iff]; rfl
  | d :: ds, vs, ns, e, h => by
    obtain ⟨v, t, rfl, h1, h2⟩ := h.cons_iff
    cases d <;> unfold bls at e <;> try cases e
    cases q : bls ds with
    | none => rw [q] at e; cases e
    | some r =>
      rw [q] at e; cases e
      unfold DR at h1
      rw [h1, bls_DsR q h2]; rfl
theorem o_all : Op1 K opAll fun v H Q => rAll K [v] H Q := by
  intro C W m H μ x v Q R T P
  unfold opAll at P
  split at P
  · rename_i bs hb
    obtain ⟨xs, hx, hb⟩ := Option.bind_eq_some_iff.mp hb
    obtain ⟨a, vs, rfl, h1, h2⟩ := lq_TC R T hx
    rw [bls_DsR hb h2] at h1
    exact ⟨a, bs, rfl, h1, Post.ok R P bl_TR⟩
  · exact P.elim
theorem o_any : Op1 K opAny fun v H Q => rAny K [v] H Q := by
  intro C W m H μ x v Q R T P
  unfold opAny at P
  split at P
  · rename_i bs hb
    obtain ⟨xs, hx, hb⟩ := Option.bind_eq_some_iff.mp hb
    obtain ⟨a, vs, rfl, h1, h2⟩ := lq_TC R T hx
    rw [bls_DsR hb h2] at h1
    exact ⟨a, bs, rfl, h1, Post.ok R P bl_TR⟩
  · exact P.elim
theorem o_sum : Op1 K opSum fun v H Q => rSum K [v] H Q := by
  intro C W m H μ x v Q R T P
  unfold opSum at P
  split at P
  · rename_i bs hb
    obtain ⟨xs, hx, hb⟩ := Option.bind_eq_some_iff.mp hb
    obtain ⟨a, vs, rfl, h1, h2⟩ := lq_TC R T hx
    rw [nums_DsR hb h2] at h1
    exact ⟨a, bs, rfl, h1, Post.ok R P int_TR⟩
  · exact P.elim
theorem o_tuple : Op1 K opTuple fun v H Q => ∃ p ys, [v] = [V.ref p] ∧ ((SqL K H p ys ∧ ∀ l, H l = none → Q (.ref l) (upd H l (.tup ys))) ∨ (SqT K H p ys ∧ Q (.ref p) H)) := by
  intro C W m H μ x v Q R T P
  unfold opTuple at P
  split at P
  · obtain ⟨a, vs, rfl, h1, h2⟩ := tup_TC T
    exact ⟨a, vs, rfl, .inr ⟨h1, Post.ok R P ⟨T, Frs.val⟩⟩⟩
  · split at P
    · rename_i xs hx
      obtain ⟨a, vs, rfl, h1, h2⟩ := lq_TC R T hx
      exact ⟨a, vs, rfl, .inl ⟨h1, fun l hl => new_tup R h2 P hl⟩⟩
    · exact P.elim
theorem o_list : Op1 K opList fun v H Q => ∃ p ys, [v] = [V.ref p] ∧ (SqL K H p ys ∨ SqT K H p ys) ∧ ∀ l, H l = none → Q (.ref l) (upd H l (.lst ys)) := by
  intro C W m H μ x v Q R T P
  unfold opList at P
  split at P
  · rename_i xs hx
    obtain ⟨a, vs, rfl, h1, h2⟩ := sq_TC R T hx
    exact ⟨a, vs, rfl, h1, fun l hl => new_lst R h2 P hl⟩
  · exact P.elim
theorem o_neg : Op1 K opNeg (rU fun i => .int (-i)) := by
  intro C W m H μ x v Q R T P
  unfold opNeg at P
  split at P
  · exact ⟨_, int_TC T, Post.ok R P int_TR⟩
  · exact P.elim
theorem o_sub : Op2 K opSub (rI0 fun i j => .int (i - j)) := by
  intro C W m H μ x y v1 v2 Q R T1 T2 P
  unfold opSub at P
  split at P
  · exact ⟨_, _, int_TC T1, int_TC T2, Post.ok R P int_TR⟩
  · exact P.elim
theorem o_lt : Op2 K opLt (rI0 fun i j => .bl (decide (i < j))) := by
  intro C W m H μ x y v1 v2 Q R T1 T2 P
  unfold opLt at P
  split at P
  · exact ⟨_, _, int_TC T1, int_TC T2, Post.ok R P bl_TR⟩
  · exact P.elim
theorem o_le : Op2 K opLe (rI0 fun i j => .bl (decide (i ≤ j))) := by
  intro C W m H μ x y v1 v2 Q R T1 T2 P
  unfold opLe at P
  split at P
  · exact ⟨_, _, int_TC T1, int_TC T2, Post.ok R P bl_TR⟩
  · exact P.elim
theorem o_gt : Op2 K opGt (rI0 fun i j => .bl (decide (j < i))) := by
  intro C W m H μ x y v1 v2 Q R T1 T2 P
  unfold opGt at P
  split at P
  · exact ⟨_, _, int_TC T1, int_TC T2, Post.ok R P bl_TR⟩
  · exact P.elim
theorem o_ge : Op2 K opGe (rI0 fun i j => .bl (decide (j ≤ i))) := by
  intro C W m H μ x y v1 v2 Q R T1 T2 P
  unfold opGe at P
  split at P
  · exact ⟨_, _, int_TC T1, int_TC T2, Post.ok R P bl_TR⟩
  · exact P.elim
end
end Mi
end
section
set_option Elab.async false
set_option linter.all false
set_option maxRecDepth 100000
set_option maxHeartbeats 1000000
/-! MiE: more operators. -/
namespace Mi
open PySem PySem.Spec PyProof.Rows L2
section
variable {K : PySem.W.Frag}
theorem bl_lt : BlOp opLt := by
  intro x y μ t μ' h
  unfold opLt at h
  split at h
  · cases h; exact ⟨_, rfl⟩
  · cases h
theorem bl_le : BlOp opLe := by
  intro x y μ t μ' h
  unfold opLe at h
  split at h
  · cases h; exact ⟨_, rfl⟩
  · cases h
theorem bl_gt : BlOp opGt := by
  intro x y μ t μ' h
  unfold opGt at h
  split at h
  · cases h; exact ⟨_, rfl⟩
  · cases h
theorem bl_ge : BlOp opGe := by
  intro x y μ t μ' h
  unfold opGe at h
  split at h
  · cases h; exact ⟨_, rfl⟩
  · cases h
theorem bl_eq : BlOp opEq := by
  intro x y μ t μ' h
  unfold opEq at h
  split at h
  · cases h; exact ⟨_, rfl⟩
  · cases h
theorem bl_ne : BlOp opNe := by
  intro x y μ t μ' h
  unfold opNe at h
  split at h
  · cases h; exact ⟨_, rfl⟩
  · cases h
theorem mod_pos {i j : Int} (h : 0 < j) : True := trivial
theorem o_mod : Op2 K opMod (rI (fun _ j => 0 < j) fun i j => .int (i % j)) := by
  intro C W m H μ x y v1 v2 Q R T1 T2 P
  unfold opMod at P
  split at P
  · rename_i i j
    by_cases hj : 0 < j
    · rw [if_pos hj] at P
      exact ⟨_, _, int_TC T1, int_TC T2, hj, Post.ok R P int_TR⟩
    · rw [if_neg hj] at P; exact P.elim
  · exact P.elim
/-- the two rules of // -/
def rDiv : R2 := fun x y H Q => rI CDiv (fun i j => .int (i / j)) x y H Q ∨ rI CDivW (fun i j => .int (i / j)) x y H Q
theorem op_div {X : Cx} : OpR X (binaryOp .FloorDiv) rDiv := op_fdiv.or op_fdivW
theorem o_div : Op2 K opDiv rDiv := by
  intro C W m H μ x y v1 v2 Q R T1 T2 P
  unfold opDiv at P
  split at P
  · rename_i i j
    by_cases hj : 0 < j
    · rw [if_pos hj] at P
      by_cases hs : j < 1073741824
      · rw [if_pos hs] at P
        exact .inl ⟨_, _, int_TC T1, int_TC T2, ⟨hj, hs⟩, Post.ok R P int_TR⟩
      · rw [if_neg hs] at P
        by_cases hw : j.natAbs.log2 < 9000
        · rw [if_pos hw] at P
          exact .inr ⟨_, _, int_TC T1, int_TC T2, ⟨hj, hw⟩, Post.ok R P int_TR⟩
        · rw [if_neg hw] at P; exact P.elim
    · rw [if_neg hj] at P; exact P.elim
  · exact P.elim
/-- the rules of +: ints, texts, tuples, lists -/
def rAddA (K : PySem.W.Frag) : R2 := fun x y H Q => rI0 (fun i j => .int (i + j)) x y H Q ∨ ((∃ i j, x = .str i ∧ y = .str j ∧ i.length + j.length ≤ sizeLine ∧ Q (.str (i ++ j)) H) ∨ (rCatA K x y H Q ∨ rCat x y H Q))
theorem op_addA {X : Cx} : OpR X (binaryOp .Add) (rAddA X.K) := op_add.or (op_add_str.or (op_catA.or op_cat))
theorem mq_TC {m : List Addr} {H : Hp} {μ : Hq} {t : Tv} {v : V} {xs : List D} (R : Rp K m H μ) (h : TC K m H t v) (e : mq μ t = some xs) : ∃ a vs, v = .ref a ∧ H a = some (.lst vs) ∧ DsR K m H xs vs := by
  unfold mq at e
  split at e
  · rename_i r
    have h : DR K m H (.ref r) v := h
    unfold DR at h
    obtain ⟨a, ev, h1⟩ := h
    cases q : μ[r]? with
    | none => rw [q] at e; cases e
    | some o =>
      rw [q] at e
      have ob := R.ob r a o h1 q
      cases o with
      | lst ys => obtain ⟨vs, e2, e3⟩ := ob; cases e; exact ⟨a, vs, ev, e2, e3⟩
      | fz ys => obtain ⟨vs, e2, e3⟩ := ob; cases e; exact ⟨a, vs, ev, e2, e3⟩
      | dic _ => cases e
      | fd _ => cases e
  · cases e
    obtain ⟨a, vs, ev, _, e2, e3⟩ := h
    exact ⟨a, vs, ev, e2, e3⟩
  · cases e
theorem DsR.nil_of {m : List Addr} {H : Hp} {ds : List D} {vs : List V} (h : DsR K m H ds vs) : vs = [] ↔ ds = [] := by
  have := h.length
  cases ds <;> cases vs <;> simp_all
theorem o_add : Op2 K opAdd (rAddA K) := by
  intro C W m H μ x y v1 v2 Q R T1 T2 P
  unfold opAdd at P
  split at P
  · exact .inl ⟨_, _, int_TC T1, int_TC T2, Post.ok R P int_TR⟩
  · obtain ⟨hz, P⟩ := cap_post P
    exact .inr (.inl ⟨_, _, str_TC T1, str_TC T2, big_line hz, Post.ok R P str_TR⟩)
  · rename_i xs ys
    obtain ⟨hz, P⟩ := cap_post P
    obtain ⟨a, vs, rfl, h1, h2⟩ := tup_TC T1
    obtain ⟨b, ws, rfl, g1, g2⟩ := tup_TC T2
    refine .inr (.inr (.inl ⟨a, b, vs, ws, rfl, rfl, h1, g1, by rw [← h2.length, ← g2.length]; exact big_line hz, fun e => ?_, fun _ e => ?_, fun _ _ p hp => new_tup R (h2.append g2) P hp⟩))
    · have e' := h2.nil_of.mp e
      subst e'
      exact Post.ok R P ⟨by rw [List.nil_append]; exact T2, Frs.val⟩
    · have e' := g2.nil_of.mp e
      subst e'
      exact Post.ok R P ⟨by rw [List.append_nil]; exact T1, Frs.val⟩
  · split at P
    · rename_i xs ys hx hy
      obtain ⟨hz, P⟩ := cap_post P
      obtain ⟨a, vs, rfl, h1, h2⟩ := mq_TC R T1 hx
      obtain ⟨b, ws, rfl, g1, g2⟩ := mq_TC R T2 hy
      exact .inr (.inr (.inr ⟨a, b, vs, ws, rfl, rfl, h1, g1, by rw [← h2.length, ← g2.length]; exact big_line hz, fun p hp => new_lst R (h2.append g2) P hp⟩))
    · exact P.elim
/-! subscripts -/
theorem ixq_eq (n : Nat) (i : Int) : ixq n i = ixN n i := rfl
theorem at_TC {m : List Addr} {H : Hp} {ds : List D} {vs : List V} {i : Int} {d : D} (h : DsR K m H ds vs) (e : at? ds i = some d) : ∃ v, atI vs i = some v ∧ DR K m H d v := by
  unfold at? at e
  cases q : ixq ds.length i with
  | none => rw [q] at e; cases e
  | some j =>
    rw [q] at e
    obtain ⟨v, e1, e2⟩ := h.get e
    refine ⟨v, ?_, e2⟩
    unfold atI
    rw [← h.length, ← ixq_eq, q]; exact e1
/-- a list's or tuple's item -/
theorem o_ix : Op2 K opIx (rIx K) := by
  intro C W m H μ x y v1 v2 Q R T1 T2 P
  unfold opIx at P
  split at P
  · rename_i i
    split at P
    · rename_i xs hx
      split at P
      · rename_i d hd
        obtain ⟨a, vs, rfl, h1, h2⟩ := sq_TC R T1 hx
        obtain ⟨w, e1, e2⟩ := at_TC h2 hd
        rcases h1 with h1 | h1
        · exact .inl ⟨a, vs, i, w, rfl, int_TC T2, h1, e1, Post.ok R P (TR.val e2)⟩
        · exact .inr (.inl ⟨a, vs, i, w, rfl, int_TC T2, h1, e1, Post.ok R P (TR.val e2)⟩)
      · exact P.elim
    · exact P.elim
  · exact P.elim
/-! isinstance -/
def Ty.name : Ty → String
  | .int => "int" | .bool => "bool" | .str => "str" | .tuple => "tuple" | .list => "list" | .dict => "dict"
theorem lst_Ty {H : Hp} {a : Addr} {vs : List V} (h : SqL K H a vs) : TyX K H (.ref a) (.type "list") := by
  rcases h with (h | ⟨o, h⟩) | ⟨o, its, n, h1, h2, _⟩
  · exact .base (.lst h)
  · exact .base (.frz h)
  · exact .kList h1 h2
theorem tup_Ty {H : Hp} {a : Addr} {vs : List V} (h : SqT K H a vs) : TyX K H (.ref a) (.type "tuple") := by
  rcases h with (h | ⟨o, h⟩) | ⟨o, its, n, h1, h2, _⟩
  · exact .base (.tup h)
  · exact .fTuple h
  · exact .kTuple h1 h2
theorem o_isi {t : Ty} : Op1 K (opIsi t) fun v H Q => rIsi K [v, .ty t.name] H Q := by
  intro C W m H μ x v Q R T P
  unfold opIsi at P
  split at P
  · rename_i b hb
    have fin : ∀ (u : Value), TyX K H v u → (∀ s : String, u = .type s → kitB s t.name = some b) → (∃ s : String, u = .type s) → rIsi K [v, .ty t.name] H Q := fun u ty hk ⟨s, e⟩ => by
      subst e
      exact ⟨v, .ty t.name, _, .type t.name, b, rfl, .ty _, ty, kit_ty (hk s rfl), Post.ok R P bl_TR⟩
    unfold isTy at hb
    split at hb
    · cases hb; exact fin _ (by rw [non_TC T]; exact .base .non) (fun s e => by cases e; cases t <;> decide +kernel) ⟨_, rfl⟩
    · cases hb; exact fin _ (by rw [bl_TC T]; exact .base (.bl _)) (fun s e => by cases e; cases t <;> decide +kernel) ⟨_, rfl⟩
    · cases hb; exact fin _ (by rw [int_TC T]; exact .base (.int _)) (fun s e => by cases e; cases t <;> decide +kernel) ⟨_, rfl⟩
    · cases hb; exact fin _ (by rw [str_TC T]; exact .base (.str _)) (fun s e => by cases e; cases t <;> decide +kernel) ⟨_, rfl⟩
    · cases hb
      obtain ⟨a, vs, rfl, h1, h2⟩ := tup_TC T
      exact fin _ (tup_Ty h1) (fun s e => by cases e; cases t <;> decide +kernel) ⟨_, rfl⟩
    · split at hb
      · rename_i xs hx
        cases hb
        obtain ⟨a, vs, rfl, h1, h2⟩ := lq_TC R T hx
        exact fin _ (lst_Ty h1) (fun s e => by cases e; cases t <;> decide +kernel) ⟨_, rfl⟩
      · cases hb
  · exact P.elim
end
end Mi
end
section
set_option Elab.async false
set_option linter.all false
set_option maxRecDepth 100000
set_option maxHeartbeats 1000000
/-! MiT: t * k for 0, 1 and the empty tuple. -/
namespace Mi
open PySem PySem.Spec PyProof.Rows L2
theorem tuple_mulS (l : Addr) (items : Array Value) (n : Nat) (dd : Option Addr) (sl : Array (Option Value)) (x : Int) (u : Tok) (c0 : (decide (x < -(2 ^ 63)) || decide (x ≥ 2 ^ 63)) = false) (c1 : (items.isEmpty || x == 1) = true) :
    Meets (Builtin.«tuple.__mul__» ⟨[.ref l, .int x u], []⟩) (fun _ R s => s.heap.get? l = some { cls := .type "tuple", dict := dd, data := .seq items n, slots := sl } ∧
      R (.ok (.ret (Value.ref l))) s) :=
  .of_wp fun prog w A R s h => by
    obtain ⟨hp, g, d, tk, os⟩ := s
    obtain ⟨hl, h⟩ := h
    have f1 := AutoSeq1.idx_int
    wp_walk using wpAny_loadPart' hl
    repeat (first
      | (refine wpAny_ite_false (decide_eq_false (by rw [c0]; exact Bool.false_ne_true)) ?_; wp_walk using wpAny_loadPart' hl)
      | (refine wpAny_ite_true (decide_eq_true (by rw [c1])) ?_; wp_walk using wpAny_loadPart' hl))
    exact ⟨_, rfl, h⟩
theorem tuple_mul0 (l : Addr) (items : Array Value) (n : Nat) (dd : Option Addr) (sl : Array (Option Value)) (x : Int) (u : Tok) (c0 : (decide (x < -(2 ^ 63)) || decide (x ≥ 2 ^ 63)) = false) (c1 : (items.isEmpty || x == 1) = false) (c2 : (decide (x ≤ 0) || items.isEmpty) = true) :
    Meets (Builtin.«tuple.__mul__» ⟨[.ref l, .int x u], []⟩) (fun _ R s => s.heap.get? l = some { cls := .type "tuple", dict := dd, data := .seq items n, slots := sl } ∧
      R (.ok (.ret (Value.ref s.heap.objs.size))) { s with heap := s.heap.push { cls := Value.type "tuple", data := Data.seq #[] }, toks := s.toks }) :=
  .of_wp fun prog w A R s h => by
    obtain ⟨hp, g, d, tk, os⟩ := s
    obtain ⟨hl, h⟩ := h
    have f1 := AutoSeq1.idx_int
    wp_walk using wpAny_loadPart' hl
    repeat (first
      | (refine wpAny_ite_false (decide_eq_false (by rw [c0]; exact Bool.false_ne_true)) ?_; wp_walk using wpAny_loadPart' hl)
      | (refine wpAny_ite_false (decide_eq_false (by rw [c1]; exact Bool.false_ne_true)) ?_; wp_walk using wpAny_loadPart' hl)
      | (refine wpAny_ite_true (decide_eq_true (by rw [c2])) ?_; wp_walk using wpAny_loadPart' hl))
    exact ⟨_, rfl, h⟩
def rRepA (K : PySem.W.Frag) : R2 := fun x y H Q => ∃ (l : Addr) (k : Int) (xs : List V), x = .ref l ∧ y = .int k ∧ SqT K H l xs ∧ 0 ≤ k ∧ k ≤ 1000 ∧ xs.length ≤ 1000 ∧ ((xs = [] ∨ k = 1) → Q (.ref l) H) ∧
  (xs ≠ [] → k = 0 → ∀ p, H p = none → Q (.ref p) (upd H p (.tup []))) ∧ (xs ≠ [] → 2 ≤ k → ∀ p, H p = none → Q (.ref p) (upd H p (.tup (List.replicate k.toNat xs).flatten)))
theorem op_repA {X : Cx} : OpR X (binaryOp .Mult) (rRepA X.K) := by
  intro pins s σ H x y v u Q I rx ry h
  obtain ⟨l, k, xs, ex, ey, hT, h0, h1, hz, q1, q0, q2⟩ := h
  by_cases hb : xs ≠ [] ∧ 2 ≤ k
  · exact op_repT pins s σ H x y v u Q I rx ry ⟨l, k, xs, ex, ey, hT, hb.1, hb.2, h1, hz, q2 hb.1 hb.2⟩
  subst ex ey
  cases rx
  obtain ⟨t, rfl⟩ := ry
  obtain ⟨its, r, ⟨⟨cls, dd, data, sl⟩, ho, hc, n, hd⟩, hs⟩ := I.tuple hT
  simp only at hc hd
  subst hc hd
  have hle : its.length = xs.length := r.length.symm
  have hi : its.toArray.isEmpty = xs.isEmpty := by
    cases its <;> cases xs <;> simp_all
  have c0 : (decide (k < -(2 ^ 63)) || decide (k ≥ 2 ^ 63)) = false := by
    rw [decide_eq_false (by omega), decide_eq_false (by omega)] <;> rfl
  by_cases e1 : xs = [] ∨ k = 1
  · have c1 : (its.toArray.isEmpty || k == 1) = true := by
      rw [hi]
      rcases e1 with e | e
      · rw [e]; rfl
      · rw [e]; simp
    refine wpAny_binaryOp_repeat_ref (T := "tuple") (U := "int") (by decide) ⟨_, ho, rfl⟩ (fun s' => typeIs_int s' k t) noFill_tuple_mul F.fills_int_mul F.slot_int_rmul repeat_tuple F.slot_int_index.lookup
      (call_meets F.slot_int_rmul (typeIs_int s k t) F.entry_int_rmul (F.args_int_rmul_2 _ _) (int_rmul_tuple k t l its.toArray n dd sl)
        ⟨ho, rfl, ⟨_, ho, rfl⟩, call_meets F.slot_tuple_mul ⟨_, ho, rfl⟩ F.entry_tuple_mul (F.args_tuple_mul_2 _ _) (tuple_mulS l its.toArray n dd sl k t c0 c1) ⟨ho, ?_⟩⟩)
    exact ⟨.ref l, H, I, rfl, q1 e1⟩
  · have hx : xs ≠ [] := fun e => e1 (.inl e)
    have k0 : k = 0 := by
      have : ¬ 2 ≤ k := fun z => hb ⟨hx, z⟩
      have : k ≠ 1 := fun z => e1 (.inr z)
      omega
    have c1 : (its.toArray.isEmpty || k == 1) = false := by
      rw [hi]
      have : xs.isEmpty = false := by cases xs <;> simp_all
      rw [this, k0]; rfl
    have c2 : (decide (k ≤ 0) || its.toArray.isEmpty) = true := by
      rw [decide_eq_true (by omega), Bool.true_or]
    refine wpAny_binaryOp_repeat_ref (T := "tuple") (U := "int") (by decide) ⟨_, ho, rfl⟩ (fun s' => typeIs_int s' k t) noFill_tuple_mul F.fills_int_mul F.slot_int_rmul repeat_tuple F.slot_int_index.lookup
      (call_meets F.slot_int_rmul (typeIs_int s k t) F.entry_int_rmul (F.args_int_rmul_2 _ _) (int_rmul_tuple k t l its.toArray n dd sl)
        ⟨ho, rfl, ⟨_, ho, rfl⟩, call_meets F.slot_tuple_mul ⟨_, ho, rfl⟩ F.entry_tuple_mul (F.args_tuple_mul_2 _ _) (tuple_mul0 l its.toArray n dd sl k t c0 c1 c2) ⟨ho, ?_⟩⟩)
    refine ⟨.ref s.heap.objs.size, _, I.laid (t' := s.toks) (o := .tup []) (fun b ob q => Heap.get?_push_of_some _ q) (Nat.le_refl _) ?_, rfl, q0 hx k0 _ (I.hok.fresh (Nat.le_refl _))⟩
    exact ⟨Nat.zero_le _, [], .nil, IsTup.new _ _⟩
/-- the rules of *: ints, tuples, lists -/
def rMulA (K : PySem.W.Frag) : R2 := fun x y H Q => (rI CMul (fun i j => .int (i * j)) x y H Q ∨ rI CMulW (fun i j => .int (i * j)) x y H Q) ∨ (rRepA K x y H Q ∨ rRep x y H Q)
theorem op_mulA {X : Cx} : OpR X (binaryOp .Mult) (rMulA X.K) := (op_mul.or op_mulW).or (op_repA.or op_rep)
section
variable {K : PySem.W.Frag}
theorem DsR.rep {m : List Addr} {H : Hp} {ds : List D} {vs : List V} (h : DsR K m H ds vs) : ∀ n : Nat, DsR K m H (List.replicate n ds).flatten (List.replicate n vs).flatten
  | 0 => .nil
  | n + 1 => by
    rw [List.replicate_succ, List.replicate_succ, List.flatten_cons, List.flatten_cons]
    exact h.append (DsR.rep h n)
theorem rep_len {α : Type} (xs : List α) (n : Nat) : (List.replicate n xs).flatten.length = xs.length * n := by
  simp [Nat.mul_comm]
theorem o_mul : Op2 K opMul (rMulA K) := by
  intro C W m H μ x y v1 v2 Q R T1 T2 P
  unfold opMul at P
  split at P
  · rename_i i j
    by_cases hm : mulOk i j = true
    · rw [if_pos hm] at P
      have fin : Q (.int (i * j)) H := Post.ok R P int_TR
      unfold mulOk at hm
      rw [Bool.or_eq_true, Bool.or_eq_true] at hm
      rcases hm with (hm | hm) | hm
      · have := of_decide_eq_true hm
        exact .inl (.inl ⟨i, j, int_TC T1, int_TC T2, .inl (by omega), fin⟩)
      · have := of_decide_eq_true hm
        exact .inl (.inl ⟨i, j, int_TC T1, int_TC T2, .inr (by omega), fin⟩)
      · exact .inl (.inr ⟨i, j, int_TC T1, int_TC T2, (of_decide_eq_true hm : i.natAbs.log2 + j.natAbs.log2 < 1000000), fin⟩)
    · rw [if_neg hm] at P; exact P.elim
  · rename_i xs k
    by_cases hk : 0 ≤ k ∧ k ≤ 1000 ∧ xs.length ≤ 1000
    · rw [if_pos hk] at P
      obtain ⟨a, vs, rfl, h1, h2⟩ := tup_TC T1
      have hl := h2.length
      refine .inr (.inl ⟨a, k, vs, rfl, int_TC T2, h1, hk.1, hk.2.1, by omega, fun e => ?_, fun _ e p hp => ?_, fun _ e p hp => new_tup R (h2.rep _) P hp⟩)
      · have ex : (List.replicate k.toNat xs).flatten = xs := by
          rcases e with e | e
          · rw [h2.nil_of.mp e]; simp
          · rw [e]; simp
        rw [ex] at P
        exact Post.ok R P ⟨T1, Frs.val⟩
      · subst e
        exact new_tup R DsR.nil P hp
    · rw [if_neg hk] at P; exact P.elim
  · rename_i k _ _
    split at P
    · rename_i xs hx
      by_cases hk : 0 ≤ k ∧ k ≤ 100000
      · rw [if_pos hk] at P
        obtain ⟨hz, P⟩ := cap_post P
        obtain ⟨a, vs, rfl, h1, h2⟩ := mq_TC R T1 hx
        exact .inr (.inr ⟨a, k, vs, rfl, int_TC T2, h1, by omega, by omega, by rw [← h2.length]; exact big_line hz, fun p hp => new_lst R (h2.rep _) P hp⟩)
      · rw [if_neg hk] at P; exact P.elim
    · exact P.elim
  · exact P.elim
end
end Mi
end
section
set_option Elab.async false
set_option linter.all false
set_option maxRecDepth 100000
set_option maxHeartbeats 1000000
/-! MiF: equality, slices, append, calls. -/
namespace Mi
open PySem PySem.Spec PyProof.Rows L2
/-! ### data -/
theorem pys_map : ∀ xs : List D, D.pys xs = xs.map D.py
  | [] => by unfold D.pys; rfl
  | x :: xs => by unfold D.pys; rw [pys_map xs]; rfl
theorem depthAll_le {n : Nat} : ∀ {ds : List PyData}, (∀ d ∈ ds, d.depth ≤ n) → PyData.depthAll ds ≤ n
  | [], _ => by unfold PyData.depthAll; exact Nat.zero_le _
  | d :: ds, h => by
    unfold PyData.depthAll
    have h1 := h d (List.mem_cons_self)
    have h2 := depthAll_le (ds := ds) fun e he => h e (List.mem_cons_of_mem _ he)
    omega
theorem canLayAll_of {ds : List PyData} (h : ∀ d ∈ ds, d.canLay0 = true) : PyData.canLayAll0 ds = true := by
  induction ds with
  | nil => unfold PyData.canLayAll0; rfl
  | cons d ds ih =>
    unfold PyData.canLayAll0
    rw [h d List.mem_cons_self, ih fun e he => h e (List.mem_cons_of_mem _ he)]; rfl
theorem dep_ok : ∀ {n : Nat} {d : D}, d.dep n = true → d.py.canLay0 = true ∧ d.py.depth ≤ n
  | n, .non, _ => by unfold D.py PyData.canLay0 PyData.depth; simp
  | n, .bl _, _ => by unfold D.py PyData.canLay0 PyData.depth; simp
  | n, .int _, _ => by unfold D.py PyData.canLay0 PyData.depth; simp
  | n, .str s, h => by
    unfold D.dep at h
    unfold D.py PyData.canLay0 PyData.depth
    exact ⟨h, Nat.zero_le _⟩
  | n, .ref _, h => by unfold D.dep at h; cases h
  | 0, .tup _, h => by unfold D.dep at h; cases h
  | 0, .fl _, h => by unfold D.dep at h; cases h
  | n + 1, .tup xs, h => by
    unfold D.dep at h
    rw [List.all_eq_true] at h
    unfold D.py
    rw [pys_map]
    unfold PyData.canLay0 PyData.depth
    refine ⟨canLayAll_of fun d hd => ?_, Nat.succ_le_succ (depthAll_le fun d hd => ?_)⟩
    · obtain ⟨e, he, rfl⟩ := List.mem_map.mp hd
      exact (dep_ok (h e he)).1
    · obtain ⟨e, he, rfl⟩ := List.mem_map.mp hd
      exact (dep_ok (h e he)).2
  | n + 1, .fl xs, h => by
    unfold D.dep at h
    rw [List.all_eq_true] at h
    unfold D.py
    rw [pys_map]
    unfold PyData.canLay0 PyData.depth
    refine ⟨canLayAll_of fun d hd => ?_, Nat.succ_le_succ (depthAll_le fun d hd => ?_)⟩
    · obtain ⟨e, he, rfl⟩ := List.mem_map.mp hd
      exact (dep_ok (h e he)).1
    · obtain ⟨e, he, rfl⟩ := List.mem_map.mp hd
      exact (dep_ok (h e he)).2
theorem all2_eqv {n : Nat} (ih : ∀ {x y : D}, x.dep n = true → y.dep n = true → D.eqv n x y = PyData.eqv x.py y.py) : ∀ {xs ys : List D}, xs.all (D.dep n) = true → ys.all (D.dep n) = true → all2 (D.eqv n) xs ys = PyData.eqvAll (D.pys xs) (D.pys ys)
  | [], [], _, _ => by unfold all2 D.pys PyData.eqvAll; rfl
  | [], y :: ys, _, _ => by unfold all2 D.pys PyData.eqvAll; rfl
  | x :: xs, [], _, _ => by unfold all2 D.pys PyData.eqvAll; rfl
  | x :: xs, y :: ys, h, g => by
    rw [List.all_cons, Bool.and_eq_true] at h g
    unfold all2 D.pys PyData.eqvAll
    rw [ih h.1 g.1, all2_eqv ih h.2 g.2]
theorem eqv_ok : ∀ {n : Nat} {x y : D}, x.dep n = true → y.dep n = true → D.eqv n x y = PyData.eqv x.py y.py := by
  intro n
  induction n with
  | zero =>
    intro x y h g
    cases x <;> cases y <;> first
      | (unfold D.dep at h; cases h; done)
      | (unfold D.dep at g; cases g; done)
      | (unfold D.eqv D.py PyData.eqv; first | rfl | (simp [Bool.beq_eq_decide_eq]; done) | (rw [Bool.beq_eq_decide_eq]; done))
  | succ n ih =>
    intro x y h g
    cases x <;> cases y <;> first
      | (unfold D.dep at h; cases h; done)
      | (unfold D.dep at g; cases g; done)
      | (unfold D.dep at h g; unfold D.eqv D.py PyData.eqv; exact all2_eqv (fun a b => ih a b) h g)
      | (unfold D.eqv D.py PyData.eqv; first | rfl | (simp [Bool.beq_eq_decide_eq]; done) | (rw [Bool.beq_eq_decide_eq]; done))
section
variable {K : PySem.W.Frag} {m : List Addr} {H : Hp} {μ : Hq}
theorem Dp_of (R : Rp K m H μ) : ∀ {n : Nat} {d : D} {v : V}, d.dep n = true → DR K m H d v → Dp K H v d.py
  | n, .non, v, _, h => by unfold DR at h; subst h; unfold D.py; exact .non
  | n, .bl _, v, _, h => by unfold DR at h; subst h; unfold D.py; exact .bl _
  | n, .int _, v, _, h => by unfold DR at h; subst h; unfold D.py; exact .int _
  | n, .str s, v, _, h => by unfold DR at h; subst h; unfold D.py; exact .str _
  | n, .ref _, v, h, _ => by unfold D.dep at h; cases h
  | 0, .tup _, v, h, _ => by unfold D.dep at h; cases h
  | 0, .fl _, v, h, _ => by unfold D.dep at h; cases h
  | n + 1, .tup xs, v, h, g => by
    unfold D.dep at h
    rw [List.all_eq_true] at h
    unfold DR at g
    obtain ⟨a, vs, rfl, h1, h2⟩ := g
    unfold D.py
    refine .tup h1 ?_
    have key : ∀ {ds : List D} {ws : List V}, (∀ d ∈ ds, d.dep n = true) → DsR K m H ds ws → DpAll K H ws (D.pys ds) := by
      intro ds
      induction ds with
      | nil => intro ws _ q; rw [q.nil_iff]; unfold D.pys; exact .nil
      | cons d ds ih2 =>
        intro ws hd q
        obtain ⟨v, t, rfl, q1, q2⟩ := q.cons_iff
        unfold D.pys
        exact .cons (Dp_of R (hd d List.mem_cons_self) q1) (ih2 (fun e he => hd e (List.mem_cons_of_mem _ he)) q2)
    exact key h h2
  | n + 1, .fl xs, v, h, g => by
    unfold D.dep at h
    rw [List.all_eq_true] at h
    unfold DR at g
    obtain ⟨a, vs, rfl, h1, h2⟩ := g
    unfold D.py
    refine .lst h1.now ?_
    have key : ∀ {ds : List D} {ws : List V}, (∀ d ∈ ds, d.dep n = true) → DsR K m H ds ws → DpAll K H ws (D.pys ds) := by
      intro ds
      induction ds with
      | nil => intro ws _ q; rw [q.nil_iff]; unfold D.pys; exact .nil
      | cons d ds ih2 =>
        intro ws hd q
        obtain ⟨v, t, rfl, q1, q2⟩ := q.cons_iff
        unfold D.pys
        exact .cons (Dp_of R (hd d List.mem_cons_self) q1) (ih2 (fun e he => hd e (List.mem_cons_of_mem _ he)) q2)
    exact key h h2
theorem snaps_DpAll (R : Rp K m H μ) {n : Nat} (ih : ∀ {d e : D} {v : V}, snap μ n d = some e → DR K m H d v → Dp K H v e.py ∧ e.dep n = true) :
    ∀ {ds es : List D} {vs : List V}, optAll (snap μ n) ds = some es → DsR K m H ds vs → DpAll K H vs (D.pys es) ∧ es.all (D.dep n) = true
  | [], es, vs, e, h => by
    unfold optAll at e; cases e; rw [h.nil_iff]; unfold D.pys; exact ⟨.nil, rfl⟩
  | d :: ds, es, vs, e, h => by
    obtain ⟨v, t, rfl, h1, h2⟩ := h.cons_iff
    unfold optAll at e
    split at e
    · cases e
    · rename_i y hy
      split at e
      · cases e
      · rename_i ys hys
        cases e
        obtain ⟨q1, q2⟩ := ih hy h1
        obtain ⟨q3, q4⟩ := snaps_DpAll R ih hys h2
        unfold D.pys
        exact ⟨.cons q1 q3, by rw [List.all_cons, q2, q4]; rfl⟩
theorem snap_Dp (R : Rp K m H μ) : ∀ {n : Nat} {d e : D} {v : V}, snap μ n d = some e → DR K m H d v → Dp K H v e.py ∧ e.dep n = true
  | n, .non, e, v, h, g => by unfold snap at h; cases h; unfold DR at g; subst g; unfold D.py D.dep; exact ⟨.non, rfl⟩
  | n, .bl _, e, v, h, g => by unfold snap at h; cases h; unfold DR at g; subst g; unfold D.py D.dep; exact ⟨.bl _, rfl⟩
  | n, .int _, e, v, h, g => by unfold snap at h; cases h; unfold DR at g; subst g; unfold D.py D.dep; exact ⟨.int _, rfl⟩
  | n, .str s, e, v, h, g => by
    unfold snap at h
    split at h
    · rename_i hs
      cases h; unfold DR at g; subst g; unfold D.py D.dep; exact ⟨.str _, hs⟩
    · cases h
  | 0, .tup _, _, _, h, _ => by unfold snap at h; cases h
  | 0, .fl _, _, _, h, _ => by unfold snap at h; cases h
  | 0, .ref _, _, _, h, _ => by unfold snap at h; cases h
  | n + 1, .tup xs, e, v, h, g => by
    unfold snap at h
    obtain ⟨es, he, rfl⟩ := Option.map_eq_some_iff.mp h
    unfold DR at g
    obtain ⟨a, vs, rfl, h1, h2⟩ := g
    obtain ⟨q1, q2⟩ := snaps_DpAll R (fun a b => snap_Dp R a b) he h2
    unfold D.py D.dep
    exact ⟨.tup h1 q1, q2⟩
  | n + 1, .fl xs, e, v, h, g => by
    unfold snap at h
    obtain ⟨es, he, rfl⟩ := Option.map_eq_some_iff.mp h
    unfold DR at g
    obtain ⟨a, vs, rfl, h1, h2⟩ := g
    obtain ⟨q1, q2⟩ := snaps_DpAll R (fun a b => snap_Dp R a b) he h2
    unfold D.py D.dep
    exact ⟨.lst h1.now q1, q2⟩
  | n + 1, .ref r, e, v, h, g => by
    unfold snap at h
    dsimp only at h
    split at h
    · cases h
    · rename_i xs hx
      obtain ⟨es, he, rfl⟩ := Option.map_eq_some_iff.mp h
      obtain ⟨a, vs, rfl, h1, h2⟩ := lq_TC (μ := μ) (t := .val (.ref r)) R g (by unfold lq; exact hx)
      obtain ⟨q1, q2⟩ := snaps_DpAll R (fun a b => snap_Dp R a b) he h2
      unfold D.py D.dep
      exact ⟨.lst h1 q1, q2⟩
theorem dat_Dp (R : Rp K m H μ) {t : Tv} {d : D} {v : V} (h : TC K m H t v) (e : dat μ t = some d) : Dp K H v d.py ∧ d.dep depth = true := by
  unfold dat at e
  split at e
  · exact snap_Dp R e h
  · split at e
    · rename_i hd
      cases e
      exact ⟨Dp_of R hd h, hd⟩
    · cases e
  · obtain ⟨a, vs, rfl, n, e2, e3⟩ := h
    unfold depth snap at e
    obtain ⟨es, he, rfl⟩ := Option.map_eq_some_iff.mp e
    obtain ⟨q1, q2⟩ := snaps_DpAll R (fun a b => snap_Dp R a b) he e3
    unfold D.py depth D.dep
    exact ⟨.lst (.of e2) q1, q2⟩
  · cases e
theorem shaped_of {d : D} (h : d.dep depth = true) : SeqAt.shaped d.py = true := by
  obtain ⟨h1, h2⟩ := dep_ok h
  unfold SeqAt.shaped
  rw [h1, Bool.true_and]
  exact decide_eq_true (Nat.le_trans h2 (by decide))
def rEqA (K : PySem.W.Frag) : R2 := fun x y H Q => rEq x y H Q ∨ rEqD K x y H Q
def rNeA (K : PySem.W.Frag) : R2 := fun x y H Q => rNe x y H Q ∨ rNeD K x y H Q
theorem op_eqA {X : Cx} (hu : X.A.units + 64 < cLine) : OpR X (compareOp .Eq) (rEqA X.K) := op_eq.or (op_eqD hu)
theorem op_neA {X : Cx} (hu : X.A.units + 64 < cLine) : OpR X (compareOp .NotEq) (rNeA X.K) := op_ne.or (op_neD hu)
theorem dec_V {i j : Int} : decide (V.int i = V.int j) = decide (i = j) := by
  by_cases e : i = j
  · subst e; simp
  · rw [decide_eq_false e, decide_eq_false fun q => e (V.int.inj q)]
theorem dec_Vs {i j : Str} : decide (V.str i = V.str j) = decide (i = j) := by
  by_cases e : i = j
  · subst e; simp
  · rw [decide_eq_false e, decide_eq_false fun q => e (V.str.inj q)]
theorem o_eq : Op2 K opEq (rEqA K) := by
  intro C W m H μ x y v1 v2 Q R T1 T2 P
  unfold opEq at P
  split at P
  · rename_i b hb
    have fin := Post.ok R P bl_TR
    unfold eqTv at hb
    split at hb
    · cases hb
      exact .inl ⟨by rw [int_TC T1, int_TC T2]; rfl, by rw [int_TC T1, int_TC T2, dec_V]; exact fin⟩
    · cases hb
      exact .inl ⟨by rw [str_TC T1, str_TC T2]; rfl, by rw [str_TC T1, str_TC T2, dec_Vs]; exact fin⟩
    · split at hb
      · rename_i a c ha hc
        cases hb
        obtain ⟨p1, p2⟩ := dat_Dp R T1 ha
        obtain ⟨q1, q2⟩ := dat_Dp R T2 hc
        exact .inr ⟨_, _, p1, q1, shaped_of p2, shaped_of q2, by rw [← eqv_ok p2 q2]; exact fin⟩
      · cases hb
  · exact P.elim
theorem o_ne : Op2 K opNe (rNeA K) := by
  intro C W m H μ x y v1 v2 Q R T1 T2 P
  unfold opNe at P
  split at P
  · rename_i b hb
    have fin := Post.ok R P bl_TR
    unfold eqTv at hb
    split at hb
    · cases hb
      exact .inl ⟨by rw [int_TC T1, int_TC T2]; rfl, by rw [int_TC T1, int_TC T2, dec_V]; exact fin⟩
    · cases hb
      exact .inl ⟨by rw [str_TC T1, str_TC T2]; rfl, by rw [str_TC T1, str_TC T2, dec_Vs]; exact fin⟩
    · split at hb
      · rename_i a c ha hc
        cases hb
        obtain ⟨p1, p2⟩ := dat_Dp R T1 ha
        obtain ⟨q1, q2⟩ := dat_Dp R T2 hc
        exact .inr ⟨_, _, p1, q1, shaped_of p2, shaped_of q2, by rw [← eqv_ok p2 q2]; exact fin⟩
      · cases hb
  · exact P.elim
end
end Mi
end
section
set_option Elab.async false
set_option linter.all false
set_option maxRecDepth 100000
set_option maxHeartbeats 1000000
/-! MiG: slices, append, calls, targets, statements. -/
namespace Mi
open PySem PySem.Spec PyProof.Rows L2
section
variable (K : PySem.W.Frag) (C : CT) (W : WX)
def tP (f : PF) : TO := fun σ H Q => ∃ m ρ μ, Rp K m H μ ∧ Re K m σ H ρ ∧ Post (fun _ _ _ a b => a = b) K C (fun c d H => W c d σ H) m H μ (f ρ μ) Q
/-- behind a statement -/
def PostS (m : List Addr) (H : Hp) (μ : Hq) (r : RS) (D : Ends) : Prop := match r with
  | .ok .nx ρ' μ' => ∀ m' H' σ', Ext m H μ m' H' μ' → Rp K m' H' μ' → Re K m' σ' H' ρ' → D.nx σ' H'
  | .ok .bk ρ' μ' => ∀ m' H' σ', Ext m H μ m' H' μ' → Rp K m' H' μ' → Re K m' σ' H' ρ' → D.bk σ' H'
  | .ok .ct ρ' μ' => ∀ m' H' σ', Ext m H μ m' H' μ' → Rp K m' H' μ' → Re K m' σ' H' ρ' → D.ct σ' H'
  | .ok (.rt t) ρ' μ' => ∀ m' H' v, Ext m H μ m' H' μ' → Rp K m' H' μ' → TR K H m' H' t v → D.rt v H'
  | .exc c p ρ' μ' => ∀ m' H' σ' dx, Ext m H μ m' H' μ' → Rp K m' H' μ' → Re K m' σ' H' ρ' → PR K m' H' (C c).2 p dx → W (C c).1 dx σ' H'
  | .fail => False
def tS (f : SF) : TS := fun D σ H => ∃ m ρ μ, Rp K m H μ ∧ Re K m σ H ρ ∧ PostS K C W m H μ (f ρ μ) D
end
section
variable {X : Cx} {C : CT} {W : WX} {a b c e : Expr} {fa fb fe : EF} {fc fr : TF} {es rest : List Expr} {as : AF} {pos : Pos} {m m1 : List Addr} {H H1 : Hp} {μ μ1 : Hq} {K : PySem.W.Frag}
theorem PS.imp {st : Stmt} {t t' : TS} (h : PS X st t) (i : ∀ D σ H, t' D σ H → t D σ H) : PS X st t' := ⟨fun p s σ H D I q => h.run p s σ H D I (i _ _ _ q)⟩
theorem PSs.imp {st : List Stmt} {t t' : TS} (h : PSs X st t) (i : ∀ D σ H, t' D σ H → t D σ H) : PSs X st t' := ⟨fun p s σ H D I q => h.run p s σ H D I (i _ _ _ q)⟩
theorem PostS.step {r : RS} {D : Ends} (E : Ext m H μ m1 H1 μ1) (R1 : Rp K m1 H1 μ1) (h : PostS K C W m H μ r D) : PostS K C W m1 H1 μ1 r D := by
  cases r with
  | ok f ρ' μ' => cases f with
    | nx => exact fun m' H' σ' F R' q => h m' H' σ' (E.trans F) R' q
    | bk => exact fun m' H' σ' F R' q => h m' H' σ' (E.trans F) R' q
    | ct => exact fun m' H' σ' F R' q => h m' H' σ' (E.trans F) R' q
    | rt t => exact fun m' H' v F R' q => h m' H' v (E.trans F) R' ⟨q.1, Frs.back E R1 q.2⟩
  | exc c p ρ' μ' => exact fun m' H' σ' dx F R' q => h m' H' σ' dx (E.trans F) R' q
  | fail => exact h
/-- from an expression's result to a statement's -/
theorem Post.toS {α β : Type} {rel : Hp → List Addr → Hp → α → β → Prop} {r : R α} {f : α → Hq → RS} {D : Ends} {σ : L2.St} {ρ : Ev} (R0 : Rp K m H μ) (E0 : Re K m σ H ρ) (h : PostS K C W m H μ (r.toS ρ f) D) :
    Post rel K C (fun c d H => W c d σ H) m H μ r (fun v H1 => ∃ m1 μ1 a, Ext m H μ m1 H1 μ1 ∧ Rp K m1 H1 μ1 ∧ rel H m1 H1 a v ∧ PostS K C W m H μ (f a μ1) D ∧ PostS K C W m1 H1 μ1 (f a μ1) D) := by
  cases r with
  | ok t μ' => exact fun m' H' v E R q => ⟨m', μ', t, E, R, q, h, PostS.step E R h⟩
  | exc c p μ' => exact fun m' H' dx E R q => h m' H' σ dx E R (E0.ext E R0) q
  | fail => exact h

/-! ### slices -/
theorem pv_none : PO X none (tP X.K C W pN) := by
  refine ⟨fun pins s σ H Q I h => ?_⟩
  obtain ⟨m, ρ, μ, R0, E0, P⟩ := h
  exact po_none.run pins s σ H Q I (Post.ok R0 P rfl)
theorem pv_some (h : PE X e (tE X.K C W fe)) : PO X (some e) (tP X.K C W (pS fe)) := by
  refine ⟨fun pins s σ H Q I hq => (po_some h).run pins s σ H Q I ?_⟩
  obtain ⟨m, ρ, μ, R0, E0, P⟩ := hq
  refine ⟨m, ρ, μ, R0, E0, (Post.bind (fun _ _ _ _ _ _ _ _ _ _ _ _ h => h) P).mono fun v H1 ⟨m1, μ1, t, E, R1, T1, P0, P1, ex⟩ => ?_⟩
  split at P1
  · rename_i i
    exact ⟨i, int_TC T1.1, Post.ok R1 P1 rfl⟩
  · exact P1.elim
theorem cut_DsR {ds : List D} {vs : List V} (lo hi : Option Int) (h : DsR K m H ds vs) : DsR K m H (cutq ds lo hi) (cutV vs lo hi) := by
  unfold cutq cutV
  have hl := h.length
  have e : ∀ n d o, ptI n d o = HT.sIx n d o := fun n d o => by cases o <;> rfl
  rw [e, e, hl]
  exact (h.drop _).take _
def rSlAll (K : PySem.W.Frag) : V → Option Int → Option Int → Hp → VK → Prop := fun x lo hi H Q => rSlL K x lo hi H Q ∨ rSlA K x lo hi H Q
theorem sl_ok {l' u' : Option Int} {t : Tv} {v : V} {Wx : WXe} {Q : VK} (R3 : Rp K m H μ) (T4 : TC K m H t v) (P3 : Post (TR K) K C Wx m H μ (slV l' u' t μ) Q) : rSlAll K v l' u' H Q := by
  unfold slV at P3
  split at P3
  · rename_i xs
    obtain ⟨p, vs, rfl, h1, h2⟩ := tup_TC T4
    refine .inr ⟨p, vs, rfl, h1, fun hw => ?_, fun _ q hq => new_tup R3 (cut_DsR _ _ h2) P3 hq⟩
    have hl := h2.length
    have ex : cutq xs l' u' = xs := by
      unfold cutq
      have e : ∀ n d o, ptI n d o = HT.sIx n d o := fun n d o => by cases o <;> rfl
      rw [e, e, hl, hw.1, hw.2]
      rw [List.drop_zero, Nat.sub_zero, ← hl, List.take_length]
    rw [ex] at P3
    exact Post.ok R3 P3 ⟨T4, Frs.val⟩
  · split at P3
    · rename_i xs hx
      obtain ⟨p, vs, rfl, h1, h2⟩ := lq_TC R3 T4 hx
      exact .inl ⟨p, vs, rfl, h1, fun q hq => new_lst R3 (cut_DsR _ _ h2) P3 hq⟩
    · exact P3.elim
theorem ev_sl {lo hi : Option Expr} {fl fh : PF} {p2 : Pos} (he : PE X e (tE X.K C W fe)) (hl : PO X lo (tP X.K C W fl)) (hh : PO X hi (tP X.K C W fh)) : PE X (.Subscript e (.Slice lo hi none p2) pos) (tE X.K C W (eSl fe fl fh)) := by
  refine PE.imp (pe_slice (sl_list.or sl_tupA) he hl hh) fun σ H Q h => ?_
  obtain ⟨m, ρ, μ, R0, E0, P⟩ := h
  refine ⟨m, ρ, μ, R0, E0, (Post.bind relTR P).mono fun v H1 ⟨m1, μ1, t, E, R1, T1, P0, P1, ex⟩ => ?_⟩
  refine ⟨m1, ρ, μ1, R1, E0.ext E R0, (Post.bind relTR P1).mono fun l H2 ⟨m2, μ2, l', F, R2', T2, ex1, P2, ex2⟩ => ?_⟩
  subst T2
  refine ⟨m2, ρ, μ2, R2', (E0.ext E R0).ext F R1, (Post.bind relTR P2).mono fun u H3 ⟨m3, μ3, u', G, R3, T3, ex3, P3, ex4⟩ => ?_⟩
  subst T3
  exact sl_ok R3 ((T1.1.ext F R1).ext G R2') P3

/-! ### a list of the small heap is written -/
theorem SqT.write {p q : Addr} {o : HO} {xs vs : List V} (hp : H p = some (.lst xs)) (h : SqT K H q vs) : SqT K (upd H p o) q vs := by
  rcases h with (h | ⟨u, h⟩) | h
  · exact .inl (.inl (by rw [upd_ne (ne_of h hp (by intro z; cases z))]; exact h))
  · exact .inl (.inr ⟨u, by rw [upd_ne (ne_of h hp (by intro z; cases z))]; exact h⟩)
  · exact .inr h
theorem FzL.write {p q : Addr} {o : HO} {xs vs : List V} (hp : H p = some (.lst xs)) (h : FzL K H q vs) : FzL K (upd H p o) q vs :=
  fun H2 k => h H2 fun b u w e => k b u w (by rw [upd_ne (ne_of e hp (by intro z; cases z))]; exact e)
theorem Rp.inj (R : Rp K m H μ) {r s : Nat} {p : Addr} (h1 : m[r]? = some p) (h2 : m[s]? = some p) : r = s := by
  obtain ⟨a1, e1⟩ := List.getElem?_eq_some_iff.mp h1
  obtain ⟨a2, e2⟩ := List.getElem?_eq_some_iff.mp h2
  exact (List.getElem_inj R.nd).mp (e1.trans e2.symm)
theorem write_ok {r : Nat} {p : Addr} {xs xs' : List D} {vs vs' : List V} (R : Rp K m H μ) (hr : m[r]? = some p) (hx : μ[r]? = some (.lst xs)) (hp : H p = some (.lst vs)) (h' : DsR K m H xs' vs') :
    Ext m H μ m (upd H p (.lst vs')) (μ.set r (.lst xs')) ∧ Rp K m (upd H p (.lst vs')) (μ.set r (.lst xs')) := by
  have hm : p ∈ m := List.mem_of_getElem? hr
  refine ⟨⟨⟨[], by simp⟩, fun q o e n => ?_, fun q hq n => absurd hq n, fun s q ys e1 e2 => ?_⟩, ⟨by simpa using R.len, R.nd, fun s q o e1 e2 => ?_⟩⟩
  · rw [upd_ne fun z => n (by rw [z]; exact hm)]; exact e
  · have hs : s ≠ r := fun z => by rw [z, hx] at e2; cases e2
    refine ⟨by rw [List.getElem?_set_ne (Ne.symm hs)]; exact e2, upd_ne fun z => hs (R.inj (by rw [e1, z]) hr)⟩
  · by_cases hs : r = s
    · subst hs
      rw [hr] at e1; cases e1
      have hl := (List.getElem?_eq_some_iff.mp hx).1
      rw [List.getElem?_set_self hl] at e2; cases e2
      exact ⟨vs', upd_same, h'.mono (fun _ _ e => e) (fun _ _ q => Mi.SqT.write hp q) (fun _ _ q => q.write hp)⟩
    · rw [List.getElem?_set_ne hs] at e2
      exact OR.mono (fun _ _ e => e) (fun _ _ q => Mi.SqT.write hp q) (fun _ _ q => q.write hp) (upd_ne fun z => hs (R.inj hr (by rw [e1, z]))) (R.ob s q o e1 e2)
theorem ref_TC {r : Nat} {v : V} {xs : List D} (R : Rp K m H μ) (h : TC K m H (.val (.ref r)) v) (hx : μ[r]? = some (.lst xs)) : ∃ p vs, v = .ref p ∧ m[r]? = some p ∧ H p = some (.lst vs) ∧ DsR K m H xs vs := by
  have h : DR K m H (.ref r) v := h
  unfold DR at h
  obtain ⟨p, rfl, h1⟩ := h
  obtain ⟨vs, q1, q2⟩ := R.ob r p _ h1 hx
  exact ⟨p, vs, rfl, h1, q1, q2⟩
theorem ev_app {apos : Pos} (ho : PE X a (tE X.K C W fa)) (he : PE X e (tE X.K C W fe)) (hbase : attributeBase a "append" X.env (eval a X.env) = eval a X.env := by rfl)
    (hfew : ((backTo pos (starEach (e :: []) X.env)).all (fun x => !x.1) && (backToKw pos (keywordEach [] X.env)).all (fun x => x.1.isSome)
      && decide ((e :: ([] : List Expr)).length + ([] : List Keyword).length + (if ([] : List Keyword).isEmpty then 0 else 1) < 30)) = true := by rfl)
    (hline : (apos.endLine == pos.line) = true := by rfl) (hs : starEach (e :: []) X.env = (false, eval e X.env) :: starEach [] X.env := by rfl) (hplain : (backTo pos (starEach [] X.env)).any (·.1) = false := by rfl) :
    PE X (.Call (.Attribute a "append" apos) [e] [] pos) (tE X.K C W (eApp fa fe)) := by
  refine PE.imp (pe_bm PySem.F.plainAttrs_list PySem.F.slot_list_append PySem.F.type_list_append mt_append ho (pa_cons he pa_nil hs) hbase hfew hline hs hplain) fun σ H Q h => ?_
  obtain ⟨m, ρ, μ, R0, E0, P⟩ := h
  refine ⟨m, ρ, μ, R0, E0, (Post.bind relTR P).mono fun v H1 ⟨m1, μ1, t, E, R1, T1, P0, P1, ex⟩ => ?_⟩
  split at P1
  · rename_i r
    split at P1
    · rename_i xs0 hx0
      obtain ⟨p0, vs0, rfl, h1, h2⟩ := lq_TC (μ := μ1) (t := .val (.ref r)) R1 T1.1 (by unfold lq; exact hx0)
      refine ⟨.inl ⟨rfl, vs0, h1⟩, m1, ρ, μ1, R1, E0.ext E R0, (Post.bind relTR P1).mono fun w H2 ⟨m2, μ2, y, F, R2', T2, P20, P2, _⟩ => ?_⟩
      obtain ⟨u, F2, R3, D3⟩ := TC.mat F R2' T2
      have P3 := Post.step relTR F2 R3 P20
      split at P3
      · rename_i xs hx
        obtain ⟨hz, P3⟩ := cap_post P3
        have T1' : TC X.K (m2 ++ u) H2 (.val (.ref r)) (.ref p0) := T1.1.ext F2 R1
        obtain ⟨p, vs, ep, q1, q2, q3⟩ := ref_TC R3 T1' hx
        cases ep
        obtain ⟨G, R4⟩ := write_ok R3 q1 hx q2 (q3.append (.cons D3 .nil))
        exact ⟨p0, vs, w, rfl, rfl, q2, by rw [← q3.length]; exact big_line' hz, P3 _ _ _ G R4 non_TR⟩
      · exact P3.elim
    · exact P1.elim
  · exact P1.elim

/-! ### calls of defs -/
/-- a def's promise by a combinator -/
def spG (K : PySem.W.Frag) (C : CT) (g : List D → Hq → R Tv) : Sp := fun vs H Q E => ∃ m μ ds, Rp K m H μ ∧ DsR K m H ds vs ∧ Post (TR K) K C E m H μ (g ds μ) Q
/-- what is known of a def that is called -/
structure Fk (P : Program) (w : World) (K : PySem.W.Frag) (mg : Str → Option Value) (base : Heap) (C : CT) (n : Nat) (cf : CF) (i : Nat) (x : Str) : Prop where
  ex : ∃ (f : Addr) (fd : FuncData) (ps : List Str), FnOk P w K mg base (L2.CX P w) n f fd ps (spG K C (cf i)) ∧ mg x = some (.ref f) ∧ PySem.W.keepIn K (.ref f) = true ∧ Binds K fd ps []
theorem ev_call {n : Nat} {cf : CF} {x : Str} {p : Pos} (i : Nat) (F : Fk X.prog X.w X.K X.mg X.base C n cf i x) (tk : Takes X W) (hr : Room n X.A) (hg : Gl X x) (ha : PA X (e :: es) (tA X.K C W as))
    (hdb : (x == ("__debug__" : Str)) = false := by decide) (he : starEach (e :: es) X.env = (false, eval e X.env) :: starEach es X.env := by rfl) (hpl : (backTo pos (starEach es X.env)).any (·.1) = false := by rfl) :
    PE X (.Call (.Name x p) (e :: es) [] pos) (tE X.K C W (eCall cf i as)) := by
  obtain ⟨f, fd, ps, hF, hm, hk, hb⟩ := F.ex
  refine PE.imp (pe_callS hF hr hg hm hk hb (fun σ => passAt tk σ) ha hdb he hpl) fun σ H Q h => ?_
  obtain ⟨m, ρ, μ, R0, E0, P⟩ := h
  exact ⟨m, ρ, μ, R0, E0, (Post.bind relTR P).mono fun vs H1 ⟨m1, μ1, ds, E, R1, T1, P0, P1, ex⟩ => ⟨m1, μ1, ds, R1, T1, P1⟩⟩

/-! ### targets -/
theorem gv_name (i : Nat) {x : Str} (hN : X.N.Nodup) (hi : X.N[i]? = some x) (hx : Loc X.env.scope x) (hf : X.fn x = true ∨ X.env.scope.names.lookup x = some .local := by first | exact .inl rfl | exact .inr rfl | assumption) : PG X (.Name x pos) (tG X.K C W (gN i)) := by
  refine PG.imp (pg_name hN hi hx hf) fun v σ H Q h => ?_
  obtain ⟨m, ρ, μ, d, R0, E0, D0, P⟩ := h
  exact Post.ok R0 P (E0.set D0)
theorem gvs_nil : PGs X [] (tGs X.K C W gsNil) := by
  refine PGs.imp pgs_nil fun vs σ H Q h => ?_
  obtain ⟨m, ρ, μ, ds, R0, E0, D0, P⟩ := h
  unfold gsNil at P
  split at P
  · exact ⟨D0.nil_iff, Post.ok R0 P E0⟩
  · exact P.elim
theorem gvs_cons {g : GF} {gs : GsF} (h1 : PG X a (tG X.K C W g)) (h2 : PGs X es (tGs X.K C W gs)) (hs : (assignEach (a :: es) X.env).map (·.2) = assign a X.env :: (assignEach es X.env).map (·.2) := by rfl) : PGs X (a :: es) (tGs X.K C W (gsCons g gs)) := by
  refine PGs.imp (pgs_cons h1 h2 hs) fun vs σ H Q h => ?_
  obtain ⟨m, ρ, μ, ds, R0, E0, D0, P⟩ := h
  unfold gsCons at P
  split at P
  · rename_i d t
    obtain ⟨v, r, rfl, d1, d2⟩ := D0.cons_iff
    refine ⟨v, r, rfl, m, ρ, μ, d, R0, E0, d1, ?_⟩
    cases q : g d ρ μ with
    | ok ρ1 μ1 =>
      rw [q] at P
      intro m1 H1 σ1 E R1 T1
      refine ⟨m1, ρ1, μ1, t, R1, T1, d2.ext E R0, ?_⟩
      cases q2 : gs t ρ1 μ1 with
      | ok ρ2 μ2 =>
        have P : Post (relE X.K) X.K C (fun c d H => W c d σ H) m H μ (match gs t ρ1 μ1 with | R.ok ρ2 μ2 => R.ok ρ2 μ2 | _ => R.fail) Q := P
        rw [q2] at P
        exact fun m' H' v F R' q => P m' H' v (E.trans F) R' q
      | exc _ _ _ =>
        have P : Post (relE X.K) X.K C (fun c d H => W c d σ H) m H μ (match gs t ρ1 μ1 with | R.ok ρ2 μ2 => R.ok ρ2 μ2 | _ => R.fail) Q := P
        rw [q2] at P; exact P.elim
      | fail =>
        have P : Post (relE X.K) X.K C (fun c d H => W c d σ H) m H μ (match gs t ρ1 μ1 with | R.ok ρ2 μ2 => R.ok ρ2 μ2 | _ => R.fail) Q := P
        rw [q2] at P; exact P.elim
    | exc _ _ _ => rw [q] at P; exact P.elim
    | fail => rw [q] at P; exact P.elim
  · exact P.elim
/-- the number of targets -/
def GsL (gs : GsF) (n : Nat) : Prop := ∀ ds ρ μ, gs ds ρ μ ≠ .fail → ds.length = n
theorem gsl_nil : GsL gsNil 0 := by
  intro ds ρ μ h
  cases ds with
  | nil => rfl
  | cons d t => exact absurd rfl h
theorem gsl_cons {g : GF} {gs : GsF} {n : Nat} (hg : GsL gs n) : GsL (gsCons g gs) (n + 1) := by
  intro ds ρ μ h
  cases ds with
  | nil => exact absurd rfl h
  | cons d t =>
    refine congrArg Nat.succ ?_
    cases q : g d ρ μ with
    | ok ρ1 μ1 =>
      refine hg t ρ1 μ1 fun e => h ?_
      show (match g d ρ μ with | .ok ρ1 μ1 => (match gs t ρ1 μ1 with | .ok ρ2 μ2 => R.ok ρ2 μ2 | _ => .fail) | _ => .fail) = _
      rw [q]
      show (match gs t ρ1 μ1 with | .ok ρ2 μ2 => R.ok ρ2 μ2 | _ => .fail) = _
      rw [e]
    | exc _ _ _ =>
      refine absurd ?_ h
      show (match g d ρ μ with | .ok ρ1 μ1 => (match gs t ρ1 μ1 with | .ok ρ2 μ2 => R.ok ρ2 μ2 | _ => .fail) | _ => .fail) = _
      rw [q]
    | fail =>
      refine absurd ?_ h
      show (match g d ρ μ with | .ok ρ1 μ1 => (match gs t ρ1 μ1 with | .ok ρ2 μ2 => R.ok ρ2 μ2 | _ => .fail) | _ => .fail) = _
      rw [q]
theorem gv_tup {k : Nat} {gs : GsF} {n : Nat} (hc : X.calm = true) (h : PGs X es (tGs X.K C W gs)) (hl : GsL gs n) (hn : (assignEach es X.env).length = n := by rfl) (hst : (assignEach es X.env).findIdx? (·.1) = none := by rfl) :
    PG X (.Tuple es k pos) (tG X.K C W (gT gs)) := by
  refine PG.imp (pg_tup hc h hn hst) fun v σ H Q h => ?_
  obtain ⟨m, ρ, μ, d, R0, E0, D0, P⟩ := h
  unfold gT at P
  split at P
  · rename_i xs
    unfold DR at D0
    obtain ⟨p, vs, rfl, h1, h2⟩ := D0
    refine ⟨p, vs, rfl, h1, ?_, m, ρ, μ, xs, R0, E0, h2, P⟩
    rw [← h2.length]
    refine hl xs ρ μ fun e => ?_
    rw [e] at P; exact P
  · exact P.elim
/-! ### statements -/
variable {st : Stmt} {sts bod : List Stmt} {f g : SF}
theorem sv_nil : PSs X [] (tS X.K C W sNil) := PSs.imp pss_nil fun D σ H h => by
  obtain ⟨m, ρ, μ, R0, E0, P⟩ := h
  exact P m H σ .refl R0 E0
theorem sv_cons (h1 : PS X st (tS X.K C W f)) (h2 : PSs X sts (tS X.K C W g)) : PSs X (st :: sts) (tS X.K C W (sCons f g)) := PSs.imp (pss_cons h1 h2) fun D σ H h => by
  obtain ⟨m, ρ, μ, R0, E0, P⟩ := h
  refine ⟨m, ρ, μ, R0, E0, ?_⟩
  unfold sCons at P
  cases q : f ρ μ with
  | ok fl ρ1 μ1 =>
    rw [q] at P
    cases fl with
    | nx => exact fun m' H' σ' E R' E' => ⟨m', ρ1, μ1, R', E', PostS.step E R' P⟩
    | bk => exact P
    | ct => exact P
    | rt t => exact P
  | exc c p ρ1 μ1 => rw [q] at P; exact P
  | fail => rw [q] at P; exact P
theorem sv_pass : PS X (.Pass pos) (tS X.K C W sNil) := PS.imp ps_pass fun D σ H h => by
  obtain ⟨m, ρ, μ, R0, E0, P⟩ := h
  exact P m H σ .refl R0 E0
theorem sv_doc {x : Str} {j : Nat} {pos' : Pos} : PS X (.Expr (.Constant (.str x) j pos) pos') (tS X.K C W sNil) := PS.imp ps_doc fun D σ H h => by
  obtain ⟨m, ρ, μ, R0, E0, P⟩ := h
  exact P m H σ .refl R0 E0
theorem sv_break : PS X (.Break pos) (tS X.K C W sBrk) := PS.imp ps_break fun D σ H h => by
  obtain ⟨m, ρ, μ, R0, E0, P⟩ := h
  exact P m H σ .refl R0 E0
theorem sv_continue : PS X (.Continue pos) (tS X.K C W sCnt) := PS.imp ps_continue fun D σ H h => by
  obtain ⟨m, ρ, μ, R0, E0, P⟩ := h
  exact P m H σ .refl R0 E0
theorem sv_never : PS X st (tS X.K C W sNever) := PS.imp ps_never fun D σ H h => by
  obtain ⟨m, ρ, μ, R0, E0, P⟩ := h
  exact P
theorem sv_expr (he : PE X e (tE X.K C W fe)) (hs : swapsWith e none pos.line X.env = pure false := by rfl) : PS X (.Expr e pos) (tS X.K C W (sE fe)) := PS.imp (ps_expr he hs) fun D σ H h => by
  obtain ⟨m, ρ, μ, R0, E0, P⟩ := h
  refine ⟨m, ρ, μ, R0, E0, (Post.toS R0 E0 P).mono fun v H1 ⟨m1, μ1, t, E, R1, T1, P0, P1⟩ => ?_⟩
  exact P1 m1 H1 σ .refl R1 (E0.ext E R0)
theorem sv_ret (he : PE X e (tE X.K C W fe)) : PS X (.Return (some e) pos) (tS X.K C W (sRet fe)) := PS.imp (ps_ret he) fun D σ H h => by
  obtain ⟨m, ρ, μ, R0, E0, P⟩ := h
  refine ⟨m, ρ, μ, R0, E0, (Post.toS R0 E0 P).mono fun v H1 ⟨m1, μ1, t, E, R1, T1, P0, P1⟩ => ?_⟩
  exact P0 m1 H1 v E R1 T1
theorem sv_retN : PS X (.Return none pos) (tS X.K C W sRetN) := PS.imp ps_retN fun D σ H h => by
  obtain ⟨m, ρ, μ, R0, E0, P⟩ := h
  exact P m H .non .refl R0 non_TR
theorem sv_if {p q : List Stmt} (hc : PT X c (tT X.K C W fc)) (ha : PSs X p (tS X.K C W f)) (hb : PSs X q (tS X.K C W g)) : PS X (.If c p q pos) (tS X.K C W (sIf fc f g)) := PS.imp (ps_if hc ha hb) fun D σ H h => by
  obtain ⟨m, ρ, μ, R0, E0, P⟩ := h
  refine ⟨m, ρ, μ, R0, E0, (Post.toS R0 E0 P).mono fun v H1 ⟨m1, μ1, k, E, R1, T1, P0, P1⟩ => ?_⟩
  subst T1
  cases k with
  | true => exact iteT ⟨m1, ρ, μ1, R1, E0.ext E R0, P1⟩
  | false => exact iteF ⟨m1, ρ, μ1, R1, E0.ext E R0, P1⟩
theorem sv_asg {tg : Expr} {gg : GF} (he : PE X e (tE X.K C W fe)) (hg : PG X tg (tG X.K C W gg)) (hs : swapsWithSole [tg] e pos.line X.env = pure false := by rfl) (hw : swappedStores [tg] e X.env = pure none := by rfl)
    (h1 : (assignEach [tg] X.env).map (·.2) = [assign tg X.env] := by rfl) : PS X (.Assign [tg] e pos) (tS X.K C W (sAsg gg fe)) := PS.imp (ps_asg he hg hs hw h1) fun D σ H h => by
  obtain ⟨m, ρ, μ, R0, E0, P⟩ := h
  refine ⟨m, ρ, μ, R0, E0, (Post.toS R0 E0 P).mono fun v H1 ⟨m1, μ1, t, E, R1, T1, P0, P1⟩ => ?_⟩
  obtain ⟨u, E2, R2', D2⟩ := TC.mat E R1 T1
  have P2 := PostS.step E2 R2' P0
  have E3 := E0.ext E2 R0
  refine ⟨m1 ++ u, ρ, (mat t μ1).2, (mat t μ1).1, R2', E3, D2, (Post.toS R2' E3 P2).mono fun σ2 H2 ⟨m2, μ2, ρ2, F, R3, T3, _, P3⟩ => ?_⟩
  exact P3 m2 H2 σ2 .refl R3 T3
/-- name = e, stored by its own rule -/
theorem sv_set (i : Nat) {x : Str} {pos' : Pos} (hN : X.N.Nodup) (hi : X.N[i]? = some x) (hx : Loc X.env.scope x) (he : PE X e (tE X.K C W fe)) (hs : swapsWith e (some (.Name x pos')) pos.line X.env = pure false := by rfl)
    (hf : X.fn x = true ∨ X.env.scope.names.lookup x = some .local := by first | exact .inl rfl | exact .inr rfl | assumption) : PS X (.Assign [.Name x pos'] e pos) (tS X.K C W (sAsg (gN i) fe)) := PS.imp (ps_set hN hi hx he hs hf) fun D σ H h => by
  obtain ⟨m, ρ, μ, R0, E0, P⟩ := h
  refine ⟨m, ρ, μ, R0, E0, (Post.toS R0 E0 P).mono fun v H1 ⟨m1, μ1, t, E, R1, T1, P0, P1⟩ => ?_⟩
  obtain ⟨u, E2, R2', D2⟩ := TC.mat E R1 T1
  have P2 := PostS.step E2 R2' P0
  have E3 := E0.ext E2 R0
  exact P2 _ _ _ .refl R2' (E3.set D2)
theorem sv_par (i j : Nat) {x y : Str} {px py pt : Pos} {kt k2 pt2} (hc : X.calm = true) (hN : X.N.Nodup) (hi : X.N[i]? = some x) (hj : X.N[j]? = some y) (hij : i ≠ j)
    (hx : X.env.scope.names.lookup x = some .local) (hy : X.env.scope.names.lookup y = some .local) (ha : PA X [a, b] (tA X.K C W as))
    (hw : swappedStores [.Tuple [.Name x px, .Name y py] kt pt] (.Tuple [a, b] k2 pt2) X.env = pure (some [x, y]))
    (hs : swapsWithSole [.Tuple [.Name x px, .Name y py] kt pt] (.Tuple [a, b] k2 pt2) pos.line X.env = pure false := by rfl) :
    PS X (.Assign [.Tuple [.Name x px, .Name y py] kt pt] (.Tuple [a, b] k2 pt2) pos) (tS X.K C W (sPar i j as)) := PS.imp (ps_par hc hN hi hj hij hx hy ha hw hs) fun D σ H h => by
  obtain ⟨m, ρ, μ, R0, E0, P⟩ := h
  refine ⟨m, ρ, μ, R0, E0, (Post.toS R0 E0 P).mono fun vs H1 ⟨m1, μ1, ds, E, R1, T1, P0, P1⟩ => ?_⟩
  split at P1
  · rename_i d1 d2 _
    obtain ⟨v, t, rfl, q1, q2⟩ := T1.cons_iff
    obtain ⟨w, t2, rfl, q3, q4⟩ := q2.cons_iff
    rw [q4.nil_iff]
    exact ⟨v, w, rfl, P1 m1 H1 _ .refl R1 (((E0.ext E R0).set q1).set q3)⟩
  · exact P1.elim
end
end Mi
end
section
set_option Elab.async false
set_option linter.all false
set_option maxRecDepth 100000
set_option maxHeartbeats 1000000
/-! MiH: what is walked, loops, comprehensions. -/
namespace Mi
open PySem PySem.Spec PyProof.Rows L2
/-- how an iterator gives the items -/
structure ItR (K : PySem.W.Frag) (m : List Addr) (H : Hp) (μ : Hq) (it : Itm) (J : It) : Prop where
  at_ : ∀ r, it.lk = some r → μ[r]? = some (.lst it.xs) ∨ μ[r]? = some (.fz it.xs)
  go : ∃ G Y, Walk J it.xs.length G Y ∧ (∀ m' H' μ', Ext m H (lockq it.lk it.xs μ) m' H' μ' → Rp K m' H' μ' → G H') ∧
    ∀ i x m1 H1 μ1 H2, i < it.xs.length → Ext m H (lockq it.lk it.xs μ) m1 H1 μ1 → Rp K m1 H1 μ1 → Y i H1 x H2 → ∃ d, it.xs[i]? = some d ∧ Ext m1 H1 μ1 m1 H2 μ1 ∧ Rp K m1 H2 μ1 ∧ DR K m1 H2 d x
section
variable (K : PySem.W.Frag) (C : CT) (W : WX)
def PostI (Wx : WXe) (m : List Addr) (H : Hp) (μ : Hq) (r : R Itm) (Q : It → Hp → Prop) : Prop := match r with
  | .ok it μ' => ∀ m' H' J, Ext m H μ m' H' μ' → Rp K m' H' μ' → ItR K m' H' μ' it J → Q J H'
  | .exc c p μ' => ∀ m' H' dx, Ext m H μ m' H' μ' → Rp K m' H' μ' → PR K m' H' (C c).2 p dx → Wx (C c).1 dx H'
  | .fail => False
def tI (f : IF) : TI := fun σ H Q => ∃ m ρ μ, Rp K m H μ ∧ Re K m σ H ρ ∧ PostI K C (fun c d H => W c d σ H) m H μ (f ρ μ) Q
end
section
variable {X : Cx} {C : CT} {W : WX} {a b c e tg : Expr} {fa fb fe : EF} {es rest : List Expr} {as : AF} {pos : Pos} {m m1 m' : List Addr} {H H1 H' : Hp} {μ μ1 μ' : Hq} {K : PySem.W.Frag}
theorem PI.imp {iter : Expr} {t t' : TI} (h : PI X tg iter t) (i : ∀ σ H Q, t' σ H Q → t σ H Q) : PI X tg iter t' := ⟨fun p s σ H Q I q => h.run p s σ H Q I (i _ _ _ q)⟩
theorem PostI.step {Wx : WXe} {r : R Itm} {Q : It → Hp → Prop} (E : Ext m H μ m1 H1 μ1) (h : PostI K C Wx m H μ r Q) : PostI K C Wx m1 H1 μ1 r Q := by
  cases r with
  | ok t μ' => exact fun m' H' v F R' q => h m' H' v (E.trans F) R' q
  | exc c p μ' => exact fun m' H' dx F R' q => h m' H' dx (E.trans F) R' q
  | fail => exact h
theorem PostI.bind {α β : Type} {rel : Hp → List Addr → Hp → α → β → Prop} {Wx : WXe} {r : R α} {f : α → Hq → R Itm} {Q : It → Hp → Prop} (h : PostI K C Wx m H μ (r.bind f) Q) :
    Post rel K C Wx m H μ r (fun v H1 => ∃ m1 μ1 a, Ext m H μ m1 H1 μ1 ∧ Rp K m1 H1 μ1 ∧ rel H m1 H1 a v ∧ PostI K C Wx m1 H1 μ1 (f a μ1) Q) := by
  cases r with
  | ok t μ' => exact fun m' H' v E R q => ⟨m', μ', t, E, R, q, PostI.step E h⟩
  | exc c p μ' => exact h
  | fail => exact h
theorem PostI.ok {Wx : WXe} {it : Itm} {J : It} {Q : It → Hp → Prop} (R : Rp K m H μ) (h : PostI K C Wx m H μ (.ok it μ) Q) (q : ItR K m H μ it J) : Q J H := h m H J .refl R q
/-- the small heap, a list locked -/
theorem Rp.lock {xs : List D} {r : Nat} (R : Rp K m H μ) (h : μ[r]? = some (.lst xs) ∨ μ[r]? = some (.fz xs)) : Rp K m H (μ.set r (.fz xs)) := by
  refine ⟨by simpa using R.len, R.nd, fun s p o e1 e2 => ?_⟩
  by_cases hs : r = s
  · subst hs
    have hl : r < μ.length := by
      rcases h with h | h <;> exact (List.getElem?_eq_some_iff.mp h).1
    rw [List.getElem?_set_self hl] at e2; cases e2
    rcases h with h | h
    · have q : OR K m H p (.lst xs) := R.ob r p _ e1 h
      exact q
    · exact R.ob r p _ e1 h
  · rw [List.getElem?_set_ne hs] at e2
    exact R.ob s p o e1 e2
theorem Ext.lock {xs : List D} {r : Nat} (h : μ[r]? = some (.lst xs) ∨ μ[r]? = some (.fz xs)) : Ext m H μ m H (μ.set r (.fz xs)) := by
  refine ⟨⟨[], by simp⟩, fun _ _ e _ => e, fun _ h n => absurd h n, fun s p ys e1 e2 => ⟨?_, rfl⟩⟩
  by_cases hs : r = s
  · subst hs
    have hl := (List.getElem?_eq_some_iff.mp e2).1
    rw [List.getElem?_set_self hl]
    rcases h with h | h
    · rw [h] at e2; cases e2
    · rw [h] at e2; exact e2
  · rw [List.getElem?_set_ne hs]; exact e2
theorem ItR.lockR {it : Itm} {J : It} (I : ItR K m H μ it J) (R : Rp K m H μ) : Rp K m H (lockq it.lk it.xs μ) := by
  unfold lockq
  split
  · rename_i r hr
    exact R.lock (I.at_ r hr)
  · exact R
theorem ItR.lockE {it : Itm} {J : It} (I : ItR K m H μ it J) : Ext m H μ m H (lockq it.lk it.xs μ) := by
  unfold lockq
  split
  · rename_i r hr
    exact Ext.lock (I.at_ r hr)
  · exact .refl
/-- behind the walk: the lock is taken off -/
theorem unlock_ok {it : Itm} {J : It} (I : ItR K m H μ it J) (R : Rp K m H μ) (E : Ext m H (lockq it.lk it.xs μ) m1 H1 μ1) (R1 : Rp K m1 H1 μ1) : Ext m H μ m1 H1 (unlockq it.lk μ μ1) ∧ Rp K m1 H1 (unlockq it.lk μ μ1) := by
  have E' : Ext m H μ m1 H1 μ1 := I.lockE.trans E
  unfold unlockq
  cases hl : it.lk with
  | none => exact ⟨E', R1⟩
  | some r =>
    have ha := I.at_ r hl
    have hlt : r < μ.length := by rcases ha with h | h <;> exact (List.getElem?_eq_some_iff.mp h).1
    obtain ⟨p, hp⟩ : ∃ p, m[r]? = some p := ⟨m[r]'(by rw [R.len]; exact hlt), List.getElem?_eq_getElem _⟩
    have hfz : (lockq it.lk it.xs μ)[r]? = some (.fz it.xs) := by
      rw [hl]; exact List.getElem?_set_self hlt
    obtain ⟨k1, k2⟩ := E.lk r p _ hp hfz
    have hp1 : m1[r]? = some p := E.sub hp
    cases ho : μ[r]? with
    | none => rw [ho] at ha; rcases ha with h | h <;> cases h
    | some o =>
      dsimp only
      rw [ho]
      dsimp only
      have hl1 : r < μ1.length := (List.getElem?_eq_some_iff.mp k1).1
      refine ⟨⟨E'.pre, E'.oth, E'.new, fun s q ys e1 e2 => ?_⟩, ⟨by simpa using R1.len, R1.nd, fun s q u e1 e2 => ?_⟩⟩
      · obtain ⟨f1, f2⟩ := E'.lk s q ys e1 e2
        refine ⟨?_, f2⟩
        by_cases hs : r = s
        · subst hs
          rw [List.getElem?_set_self hl1, ← ho]; exact e2
        · rw [List.getElem?_set_ne hs]; exact f1
      · by_cases hs : r = s
        · subst hs
          rw [List.getElem?_set_self hl1] at e2; cases e2
          have q1 := R1.ob r q _ e1 k1
          rw [ho] at ha
          rcases ha with h | h
          · cases h; exact q1
          · cases h; exact q1
        · rw [List.getElem?_set_ne hs] at e2
          exact R1.ob s q u e1 e2
/-- a walk over a list or a tuple that stands -/
theorem itr_tup {xs : List D} {p : Addr} {vs : List V} (R : Rp K m H μ) (h1 : SqT K H p vs) (h2 : DsR K m H xs vs) : ItR K m H μ ⟨xs, none⟩ (Itt K p) := by
  refine ⟨fun r e => (nomatch e), (fun H => SqT K H p vs), YAt vs, ?_, fun m' H' μ' E R' => Mi.SqT.ext E R h1, fun i x m1 H1 μ1 H2 hi E R1 y => ?_⟩
  · show Walk (Itt K p) xs.length _ _
    rw [h2.length]; exact walk_tup
  · obtain ⟨rfl, y⟩ := y
    obtain ⟨d, e1, e2⟩ := (h2.ext E R).getV y
    exact ⟨d, e1, .refl, R1, e2⟩
theorem itr_fl {xs : List D} {p : Addr} {vs : List V} (R : Rp K m H μ) (h1 : FzL K H p vs) (h2 : DsR K m H xs vs) : ItR K m H μ ⟨xs, none⟩ (Itl K p) := by
  refine ⟨fun r e => (nomatch e), (fun H => SqL K H p vs), YAt vs, ?_, fun m' H' μ' E R' => (h1.ext E R).now, fun i x m1 H1 μ1 H2 hi E R1 y => ?_⟩
  · show Walk (Itl K p) xs.length _ _
    rw [h2.length]; exact walk_list
  · obtain ⟨rfl, y⟩ := y
    obtain ⟨d, e1, e2⟩ := (h2.ext E R).getV y
    exact ⟨d, e1, .refl, R1, e2⟩
theorem itr_new {xs : List D} {p : Addr} {vs : List V} (R : Rp K m H μ) (hn : p ∉ m) (h1 : H p = some (.lst vs)) (h2 : DsR K m H xs vs) : ItR K m H μ ⟨xs, none⟩ (Itl K p) := by
  refine ⟨fun r e => (nomatch e), (fun H => SqL K H p vs), YAt vs, ?_, fun m' H' μ' E R' => .of (E.oth p _ h1 hn), fun i x m1 H1 μ1 H2 hi E R1 y => ?_⟩
  · show Walk (Itl K p) xs.length _ _
    rw [h2.length]; exact walk_list
  · obtain ⟨rfl, y⟩ := y
    obtain ⟨d, e1, e2⟩ := (h2.ext E R).getV y
    exact ⟨d, e1, .refl, R1, e2⟩
theorem itr_ref {xs : List D} {r : Nat} {p : Addr} {vs : List V} (R : Rp K m H μ) (hr : m[r]? = some p) (ha : μ[r]? = some (.lst xs) ∨ μ[r]? = some (.fz xs)) (h1 : H p = some (.lst vs)) (h2 : DsR K m H xs vs) : ItR K m H μ ⟨xs, some r⟩ (Itl K p) := by
  have hlt : r < μ.length := by rcases ha with h | h <;> exact (List.getElem?_eq_some_iff.mp h).1
  have R' : Rp K m H (μ.set r (.fz xs)) := R.lock ha
  refine ⟨fun s e => by cases e; exact ha, (fun H => SqL K H p vs), YAt vs, ?_, fun m' H' μ' E _ => ?_, fun i x m1 H1 μ1 H2 hi E R1 y => ?_⟩
  · show Walk (Itl K p) xs.length _ _
    rw [h2.length]; exact walk_list
  · obtain ⟨k1, k2⟩ := E.lk r p xs hr (List.getElem?_set_self hlt)
    exact .of (k2.trans h1)
  · obtain ⟨rfl, y⟩ := y
    obtain ⟨d, e1, e2⟩ := (h2.ext E R').getV y
    exact ⟨d, e1, .refl, R1, e2⟩
theorem itr_range {lo : Int} {n : Nat} (R : Rp K m H μ) : ItR K m H μ ⟨rangeD lo n, none⟩ (Itr lo n) := by
  have hlen : ∀ (n : Nat) (lo : Int), (rangeD lo n).length = n := by
    intro n
    induction n with
    | zero => intro lo; rfl
    | succ n ih => intro lo; show (rangeD (lo + 1) n).length + 1 = _; rw [ih]
  have hget : ∀ (n i : Nat) (lo : Int), i < n → (rangeD lo n)[i]? = some (.int (lo + i)) := by
    intro n
    induction n with
    | zero => intro i lo h; exact absurd h (Nat.not_lt_zero _)
    | succ n ih =>
      intro i lo h
      cases i with
      | zero => show some (D.int lo) = _; simp
      | succ i =>
        show (rangeD (lo + 1) n)[i]? = _
        rw [ih i (lo + 1) (by omega)]
        congr 2
        omega
  refine ⟨fun r e => (nomatch e), (fun _ => True), (YFn fun i => .int (lo + i)), ?_, fun m' H' μ' E R' => trivial, fun i x m1 H1 μ1 H2 hi E R1 y => ?_⟩
  · show Walk (Itr lo n) (rangeD lo n).length _ _
    rw [hlen]; exact walk_range
  · obtain ⟨rfl, rfl⟩ := y
    have hi : i < (rangeD lo n).length := hi
    rw [hlen] at hi
    exact ⟨_, hget n i lo hi, .refl, R1, by unfold DR; rfl⟩
/-- the three kinds of things that stand and are walked -/
def iAny (K : PySem.W.Frag) (te : TE) : TI := fun σ H R => te σ H fun x H1 => ∃ p, x = .ref p ∧ ((∃ xs, SqL K H1 p xs) ∧ R (Itl K p) H1 ∨ (∃ xs, SqT K H1 p xs) ∧ R (Itt K p) H1)
theorem pi_any {l : Expr} {tl : TE} (hl : PE X l tl) : PI X tg l (iAny X.K tl) := by
  refine ⟨fun pins s σ H R I h => ?_⟩
  refine thn (hl.run pins s σ H _ I h) fun v s1 ⟨x, H1, I1, r1, q1⟩ => ?_
  obtain ⟨p, e, q1⟩ := q1
  subst e
  cases r1
  rcases q1 with ⟨⟨xs, hq⟩, q⟩ | ⟨⟨xs, hq⟩, q⟩
  · obtain ⟨its, rv, pl, hz⟩ := I1.list hq
    refine wpAny_pyIter_list pl.isList ?_
    refine ⟨s1.heap.objs.size, [s1.heap.objs.size], _, _, H1, rfl, I1.kept (t' := s1.toks) fun b o e => Heap.get?_push_of_some _ e, turn_list p _, ⟨_, Heap.get?_push_size _ rfl, rfl, rfl⟩, fun b hb => ?_, q⟩
    have e : b = s1.heap.objs.size := by simpa using hb
    subst e
    exact I1.fpOk (Nat.le_refl _) (I1.hok.fresh (Nat.le_refl _))
  · obtain ⟨its, rv, pl, hz⟩ := I1.tuple hq
    refine wpAny_pyIter_tuple (show s1.heap.IsTuple p its.toArray from pl) ?_
    refine ⟨s1.heap.objs.size, [s1.heap.objs.size], _, _, H1, rfl, I1.kept (t' := s1.toks) fun b o e => Heap.get?_push_of_some _ e, turn_tuple p _, ⟨_, Heap.get?_push_size _ rfl, rfl, rfl⟩, fun b hb => ?_, q⟩
    have e : b = s1.heap.objs.size := by simpa using hb
    subst e
    exact I1.fpOk (Nat.le_refl _) (I1.hok.fresh (Nat.le_refl _))
theorem iv_e (he : PE X e (tE X.K C W fe)) : PI X tg e (tI X.K C W (iE fe)) := by
  refine PI.imp (pi_any he) fun σ H Q h => ?_
  obtain ⟨m, ρ, μ, R0, E0, P⟩ := h
  refine ⟨m, ρ, μ, R0, E0, (PostI.bind P).mono fun v H1 ⟨m1, μ1, t, E, R1, T1, P1⟩ => ?_⟩
  have T := T1.1
  clear T1
  split at P1
  · rename_i it hit
    unfold itOf at hit
    split at hit
    · cases hit
      obtain ⟨p, vs, rfl, h1, h2⟩ := tup_TC T
      exact ⟨p, rfl, .inr ⟨⟨vs, h1⟩, PostI.ok R1 P1 (itr_tup R1 h1 h2)⟩⟩
    · cases hit
      have T : DR X.K m1 H1 (.fl _) v := T
      unfold DR at T
      obtain ⟨p, vs, rfl, h1, h2⟩ := T
      exact ⟨p, rfl, .inl ⟨⟨vs, h1.now⟩, PostI.ok R1 P1 (itr_fl R1 h1 h2)⟩⟩
    · cases hit
      obtain ⟨p, vs, rfl, hn, h1, h2⟩ := T
      exact ⟨p, rfl, .inl ⟨⟨vs, .of h1⟩, PostI.ok R1 P1 (itr_new R1 hn h1 h2)⟩⟩
    · rename_i r
      split at hit
      · rename_i xs hx
        cases hit
        have T : DR X.K m1 H1 (.ref r) v := T
        unfold DR at T
        obtain ⟨p, rfl, hr⟩ := T
        have ha : μ1[r]? = some (.lst xs) ∨ μ1[r]? = some (.fz xs) := by
          cases q : μ1[r]? with
          | none => rw [q] at hx; cases hx
          | some o => rw [q] at hx; cases o <;> cases hx <;> simp
        obtain ⟨vs, h1, h2⟩ : OR X.K m1 H1 p (.lst xs) := by
          rcases ha with h | h
          · exact R1.ob r p _ hr h
          · have q : OR X.K m1 H1 p (.fz xs) := R1.ob r p _ hr h
            exact q
        exact ⟨p, rfl, .inl ⟨⟨vs, .of h1⟩, PostI.ok R1 P1 (itr_ref R1 hr ha h1 h2)⟩⟩
      · cases hit
    · cases hit
  · exact P1.elim
theorem iv_range1 {p : Pos} (hg : Gl X "range") (hm : X.mg "range" = none) (ha : PE X a (tE X.K C W fa)) (hs : starEach [a] X.env = [(false, eval a X.env)] := by rfl) : PI X tg (.Call (.Name "range" p) [a] [] pos) (tI X.K C W (iRange1 fa)) := by
  refine PI.imp (pi_range1 hg hm (pa_cons ha pa_nil hs) hs) fun σ H Q h => ?_
  obtain ⟨m, ρ, μ, R0, E0, P⟩ := h
  refine ⟨m, ρ, μ, R0, E0, (PostI.bind P).mono fun v H1 ⟨m1, μ1, t, E, R1, T1, P1⟩ => ?_⟩
  split at P1
  · rename_i n
    by_cases hn : n < 1000000000 ∧ -1000000000 < n
    · rw [if_pos hn] at P1
      exact ⟨n, by rw [int_TC T1.1], by omega, by omega, PostI.ok R1 P1 (itr_range R1)⟩
    · rw [if_neg hn] at P1; exact P1.elim
  · exact P1.elim
theorem iv_range2 {p : Pos} (hg : Gl X "range") (hm : X.mg "range" = none) (ha : PE X a (tE X.K C W fa)) (hb : PE X b (tE X.K C W fb)) (hs : starEach [a, b] X.env = [(false, eval a X.env), (false, eval b X.env)] := by rfl) (hs2 : starEach [b] X.env = [(false, eval b X.env)] := by rfl) : PI X tg (.Call (.Name "range" p) [a, b] [] pos) (tI X.K C W (iRange2 fa fb)) := by
  refine PI.imp (pi_range2 hg hm (pa_cons ha (pa_cons hb pa_nil hs2) (by rw [hs, hs2])) hs hs2) fun σ H Q h => ?_
  obtain ⟨m, ρ, μ, R0, E0, P⟩ := h
  refine ⟨m, ρ, μ, R0, E0, (PostI.bind P).mono fun v H1 ⟨m1, μ1, t, E, R1, T1, P1⟩ => ?_⟩
  refine ⟨m1, ρ, μ1, R1, E0.ext E R0, (PostI.bind P1).mono fun w H2 ⟨m2, μ2, t2, F, R2', T2, P2⟩ => ?_⟩
  have e1 := T1.1.ext F R1
  have e2 := T2.1
  clear T1 T2
  split at P2
  · rename_i it hit
    unfold rgOf at hit
    split at hit
    · rename_i lo hi
      split at hit
      · rename_i hn
        cases hit
        have e1 := int_TC e1
        have e2 := int_TC e2
        subst e1 e2
        exact ⟨_, _, rfl, by omega, PostI.ok R2' P2 (itr_range R2')⟩
      · cases hit
    · cases hit
  · exact P2.elim
end
end Mi
end
section
set_option Elab.async false
set_option linter.all false
set_option maxRecDepth 100000
set_option maxHeartbeats 1000000
/-! MiI: loops, comprehensions, defs. -/
namespace Mi
open PySem PySem.Spec PyProof.Rows L2
section
variable {X : Cx} {C : CT} {W : WX} {a b c e tg : Expr} {fa fb fe : EF} {fc : TF} {es rest : List Expr} {as : AF} {pos : Pos} {m m1 m' : List Addr} {H H1 H' : Hp} {μ μ1 μ' : Hq} {K : PySem.W.Frag} {f : SF} {gg : GF} {fi : IF} {bod : List Stmt}
/-- what a statement is asked: its ends told of another start -/
theorem PostS.ends {r : RS} {D D' : Ends} (h : PostS K C W m H μ r D) (hn : ∀ σ H, D.nx σ H → D'.nx σ H) (hr : ∀ v H, D.rt v H → D'.rt v H) (hb : ∀ σ H, D.bk σ H → D'.bk σ H) (hc : ∀ σ H, D.ct σ H → D'.ct σ H) : PostS K C W m H μ r D' := by
  cases r with
  | ok f ρ' μ' => cases f with
    | nx => exact fun m' H' σ' F R' q => hn _ _ (h m' H' σ' F R' q)
    | bk => exact fun m' H' σ' F R' q => hb _ _ (h m' H' σ' F R' q)
    | ct => exact fun m' H' σ' F R' q => hc _ _ (h m' H' σ' F R' q)
    | rt t => exact fun m' H' v F R' q => hr _ _ (h m' H' v F R' q)
  | exc c p ρ' μ' => exact h
  | fail => exact h
/-- behind a loop the lock is taken off: the loop's own wish at the locked heap from the wish at the heap ahead -/
theorem unlock_post {it : Itm} {J : It} {r : RS} {D : Ends} (I : ItR K m H μ it J) (R : Rp K m H μ) (h : PostS K C W m H μ (unlockS it.lk μ r) D) : PostS K C W m H (lockq it.lk it.xs μ) r D := by
  cases r with
  | ok f ρ' μ' => cases f with
    | nx => exact fun m' H' σ' F R' q => let ⟨G, S⟩ := unlock_ok I R F R'; h m' H' σ' G S q
    | bk => exact fun m' H' σ' F R' q => let ⟨G, S⟩ := unlock_ok I R F R'; h m' H' σ' G S q
    | ct => exact fun m' H' σ' F R' q => let ⟨G, S⟩ := unlock_ok I R F R'; h m' H' σ' G S q
    | rt t => exact fun m' H' v F R' q => let ⟨G, S⟩ := unlock_ok I R F R'; h m' H' v G S q
  | exc c p ρ' μ' => exact fun m' H' σ' dx F R' q => let ⟨G, S⟩ := unlock_ok I R F R'; h m' H' σ' dx G S q
  | fail => exact h
theorem sv_for (po : PassesOwn (model X.prog X.w) X.A X.env X.xe) (hc : X.calm = true) (hi : PI X tg e (tI X.K C W fi)) (hg : PG X tg (tG X.K C W gg)) (hb : PSs X bod (tS X.K C W f)) (hs : ∀ x, foldedSetIterable e X.env x = pure x := by intro _; rfl) :
    PS X (.For tg e bod [] pos) (tS X.K C W (sFor gg fi f)) := by
  refine PS.imp (ps_for po hc hi hg hb hs) fun D σ H h => ?_
  obtain ⟨m, ρ, μ, R0, E0, P⟩ := h
  refine ⟨m, ρ, μ, R0, E0, ?_⟩
  unfold sFor at P
  cases q : fi ρ μ with
  | fail => rw [q] at P; exact P
  | exc c p μ1 => rw [q] at P; exact fun m' H' dx E R pr => P m' H' σ dx E R (E0.ext E R0) pr
  | ok it μ1 =>
    rw [q] at P
    intro m1 H1 J E1 R1 I
    have P1 : PostS X.K C W m1 H1 μ1 (unlockS it.lk μ1 (foGo gg f it.xs ρ (lockq it.lk it.xs μ1))) D := PostS.step E1 R1 P
    have P2 := unlock_post I R1 P1
    have RL := I.lockR R1
    obtain ⟨G, Y, hw, hG, hY⟩ := I.go
    refine for_it hw (fun i σ' H' => ∃ m' ρ' μ', Ext m1 H1 (lockq it.lk it.xs μ1) m' H' μ' ∧ Rp X.K m' H' μ' ∧ Re X.K m' σ' H' ρ' ∧ PostS X.K C W m' H' μ' (foGo gg f (it.xs.drop i) ρ' μ') D)
      ⟨m1, ρ, _, .refl, RL, E0.ext E1 R0, by rw [List.drop_zero]; exact P2⟩ (fun i σ' H' _ ⟨m', ρ', μ', E, R, _, _⟩ => hG m' H' μ' E R) (fun i x σ' H' H2 hi ⟨m', ρ', μ', E, R, Er, Pi⟩ y => ?_) (fun σ' H' ⟨m', ρ', μ', E, R, Er, Pi⟩ => ?_)
    · obtain ⟨d, ed, Ed, Rd, Dd⟩ := hY i x m' H' μ' H2 hi E R y
      have hd : it.xs.drop i = d :: it.xs.drop (i + 1) := by
        rw [List.drop_eq_getElem_cons hi]
        have := (List.getElem?_eq_some_iff.mp ed)
        obtain ⟨_, e2⟩ := this
        rw [e2]
      rw [hd] at Pi
      have Pi2 : PostS X.K C W m' H2 μ' ((gg d ρ' μ').toS ρ' fun ρ1 μ1 => match f ρ1 μ1 with
        | .ok .nx ρ2 μ2 => foGo gg f (it.xs.drop (i + 1)) ρ2 μ2
        | .ok .ct ρ2 μ2 => foGo gg f (it.xs.drop (i + 1)) ρ2 μ2
        | .ok .bk ρ2 μ2 => .ok .nx ρ2 μ2
        | r => r) D := PostS.step Ed Rd Pi
      have Er2 := Er.ext Ed R
      refine ⟨m', ρ', μ', d, Rd, Er2, Dd, (Post.toS Rd Er2 Pi2).mono fun σ2 H3 ⟨m3, μ3, ρ3, E3, R3, T3, P30, P3⟩ => ?_⟩
      refine ⟨m3, ρ3, μ3, R3, T3, ?_⟩
      cases qf : f ρ3 μ3 with
      | fail => rw [qf] at P3; exact P3
      | exc c p ρ4 μ4 => rw [qf] at P3; exact P3
      | ok fl ρ4 μ4 =>
        rw [qf] at P3
        cases fl with
        | nx => exact fun m4 H4 σ4 F R4 q4 => ⟨m4, ρ4, μ4, ((E.trans Ed).trans E3).trans F, R4, q4, PostS.step F R4 P3⟩
        | ct => exact fun m4 H4 σ4 F R4 q4 => ⟨m4, ρ4, μ4, ((E.trans Ed).trans E3).trans F, R4, q4, PostS.step F R4 P3⟩
        | bk => exact P3
        | rt t => exact P3
    · rw [List.drop_length] at Pi
      exact Pi m' H' σ' .refl R Er
theorem whGo_zero {c : TF} {b : SF} : whGo c b 0 = fun _ _ => .fail := rfl
theorem sv_while (po : PassesOwn (model X.prog X.w) X.A X.env X.xe) (hc : PT X c (tT X.K C W fc)) (hb : PSs X bod (tS X.K C W f)) : PS X (.While c bod [] pos) (tS X.K C W (sWh fc f)) := by
  refine PS.imp (ps_while po hc hb) fun D σ H h => ?_
  obtain ⟨m, ρ, μ, R0, E0, P⟩ := h
  unfold sWh at P
  refine ⟨fun n σ' H' => ∃ m' ρ' μ', Rp X.K m' H' μ' ∧ Re X.K m' σ' H' ρ' ∧ PostS X.K C W m' H' μ' (whGo fc f n ρ' μ') D, ⟨big, m, ρ, μ, R0, E0, P⟩, ?_⟩
  rintro n σ1 H1 ⟨m1, ρ1, μ1, R1, E1, P1⟩
  cases n with
  | zero => exact P1.elim
  | succ n =>
    refine ⟨m1, ρ1, μ1, R1, E1, (Post.toS R1 E1 P1).mono fun k H2 ⟨m2, μ2, k', F, R2', T, P20, P2⟩ => ?_⟩
    have T : k' = k := T
    subst T
    cases k' with
    | false => exact iteF (P2 m2 H2 σ1 .refl R2' (E1.ext F R1))
    | true =>
      refine iteT ⟨fun σ' H' => ∃ m' ρ' μ', Rp X.K m' H' μ' ∧ Re X.K m' σ' H' ρ' ∧ PostS X.K C W m' H' μ' (whGo fc f n ρ' μ') D, fun σ' H' h => ⟨n, Nat.lt_succ_self _, h⟩, m2, ρ1, μ2, R2', E1.ext F R1, ?_⟩
      have P2 : PostS X.K C W m2 H2 μ2 (match f ρ1 μ2 with
        | .ok .nx ρ2 μ2 => whGo fc f n ρ2 μ2
        | .ok .ct ρ2 μ2 => whGo fc f n ρ2 μ2
        | .ok .bk ρ2 μ2 => .ok .nx ρ2 μ2
        | r => r) D := P2
      cases qf : f ρ1 μ2 with
      | fail => rw [qf] at P2; exact P2
      | exc c p ρ4 μ4 => rw [qf] at P2; exact P2
      | ok fl ρ4 μ4 =>
        rw [qf] at P2
        cases fl with
        | nx => exact fun m4 H4 σ4 F R4 q4 => ⟨m4, ρ4, μ4, R4, q4, PostS.step F R4 P2⟩
        | ct => exact fun m4 H4 σ4 F R4 q4 => ⟨m4, ρ4, μ4, R4, q4, PostS.step F R4 P2⟩
        | bk => exact P2
        | rt t => exact P2

/-! ### comprehensions -/
/-- no exception -/
abbrev W0 : WX := fun _ _ _ _ => False
theorem ts_nil : PTs X [] (tT X.K C W tYs) := ⟨fun pins s σ H Q I h => pts_nil.run pins s σ H Q I (by
  obtain ⟨m, ρ, μ, R0, E0, P⟩ := h
  exact Post.ok R0 P rfl)⟩
/-- a comprehension's target: its own names alone, the heap as it is -/
structure GLc (K : PySem.W.Frag) (g : TG) (gg : GF) (vs : List Nat) : Prop where
  same : ∀ d ρ μ ρ1 μ1, gg d ρ μ = .ok ρ1 μ1 → μ1 = μ
  to : ∀ (m : List Addr) (H : Hp) (μ : Hq) (ρ : Ev) (σ : L2.St) (d : D) (x : V) (ρ1 : Ev) (μ1 : Hq), Rp K m H μ → Re K m σ H ρ → DR K m H d x → gg d ρ μ = .ok ρ1 μ1 →
    ∀ Q : L2.St → Hp → Prop, (∀ σ1, Re K m σ1 H ρ1 → L2.wipe σ1 vs = L2.wipe σ vs → Q σ1 H) → g x σ H Q
structure GsLc (K : PySem.W.Frag) (g : TGs) (gg : GsF) (vs : List Nat) (n : Nat) : Prop where
  same : ∀ d ρ μ ρ1 μ1, gg d ρ μ = .ok ρ1 μ1 → μ1 = μ
  len : GsL gg n
  to : ∀ (m : List Addr) (H : Hp) (μ : Hq) (ρ : Ev) (σ : L2.St) (ds : List D) (xs : List V) (ρ1 : Ev) (μ1 : Hq), Rp K m H μ → Re K m σ H ρ → DsR K m H ds xs → gg ds ρ μ = .ok ρ1 μ1 →
    ∀ Q : L2.St → Hp → Prop, (∀ σ1, Re K m σ1 H ρ1 → L2.wipe σ1 vs = L2.wipe σ vs → Q σ1 H) → g xs σ H Q
theorem wipe_set {i : Nat} {v : Option V} : ∀ {vs : List Nat} {σ : L2.St}, i ∈ vs → L2.wipe (σ.set i v) vs = L2.wipe σ vs
  | [], _, h => absurd h (by simp)
  | j :: vs, σ, h => by
    unfold L2.wipe
    by_cases e : i ∈ vs
    · rw [wipe_set e]
    · have hj : i = j := by
        rcases List.mem_cons.mp h with h | h
        · exact h
        · exact absurd h e
      subst hj
      have key : ∀ (vs : List Nat) (σ : L2.St), i ∉ vs → L2.wipe (σ.set i v) vs = (L2.wipe σ vs).set i v := by
        intro vs
        induction vs with
        | nil => intro σ _; rfl
        | cons k ks ih =>
          intro σ hk
          unfold L2.wipe
          rw [ih σ fun z => hk (List.mem_cons_of_mem _ z)]
          exact List.set_comm _ _ fun z => hk (by rw [z]; exact List.mem_cons_self)
      rw [key vs σ e, List.set_set]
theorem wipe_sub {vs : List Nat} : ∀ {us : List Nat} {σ : L2.St}, (∀ i ∈ us, i ∈ vs) → L2.wipe (L2.wipe σ us) vs = L2.wipe σ vs
  | [], _, _ => rfl
  | i :: us, σ, h => by
    show L2.wipe ((L2.wipe σ us).set i none) vs = _
    rw [wipe_set (h i List.mem_cons_self)]
    exact wipe_sub fun j hj => h j (List.mem_cons_of_mem _ hj)
theorem wipe_wipe {vs : List Nat} {σ : L2.St} : L2.wipe (L2.wipe σ vs) vs = L2.wipe σ vs := wipe_sub fun _ h => h
theorem glc_name {i : Nat} {vs : List Nat} (h : i ∈ vs) : GLc K (gName i) (gN i) vs := by
  refine ⟨fun d ρ μ ρ1 μ1 e => ?_, fun m H μ ρ σ d x ρ1 μ1 R E D0 e => ?_⟩
  · unfold gN at e; cases e; rfl
  · unfold gN at e
    cases e
    exact fun Q hQ => hQ _ (E.set D0) (wipe_set h)
theorem gslc_nil {vs : List Nat} : GsLc K gNil gsNil vs 0 := by
  refine ⟨fun d ρ μ ρ1 μ1 e => ?_, gsl_nil, fun m H μ ρ σ ds xs ρ1 μ1 R E D0 e => ?_⟩
  · unfold gsNil at e
    split at e <;> cases e; rfl
  · unfold gsNil at e
    split at e
    · cases e
      exact fun Q hQ => ⟨D0.nil_iff, hQ _ E rfl⟩
    · cases e
theorem gsCons_inv {gg : GF} {ggs : GsF} {ds : List D} {ρ ρ1 : Ev} {μ μ1 : Hq} (e : gsCons gg ggs ds ρ μ = .ok ρ1 μ1) : ∃ d t ρ2 μ2, ds = d :: t ∧ gg d ρ μ = .ok ρ2 μ2 ∧ ggs t ρ2 μ2 = .ok ρ1 μ1 := by
  unfold gsCons at e
  split at e
  · rename_i d t
    cases q : gg d ρ μ with
    | fail => rw [q] at e; cases e
    | exc _ _ _ => rw [q] at e; cases e
    | ok ρ2 μ2 =>
      rw [q] at e
      dsimp only at e
      cases q2 : ggs t ρ2 μ2 with
      | fail => rw [q2] at e; cases e
      | exc _ _ _ => rw [q2] at e; cases e
      | ok ρ3 μ3 =>
        rw [q2] at e
        cases e
        exact ⟨d, t, ρ2, μ2, rfl, q, q2⟩
  · cases e
theorem gslc_cons {g : TG} {gg : GF} {gs : TGs} {ggs : GsF} {vs : List Nat} {n : Nat} (h1 : GLc K g gg vs) (h2 : GsLc K gs ggs vs n) : GsLc K (gCons g gs) (gsCons gg ggs) vs (n + 1) := by
  refine ⟨fun ds ρ μ ρ1 μ1 e => ?_, gsl_cons h2.len, fun m H μ ρ σ ds xs ρ1 μ1 R E D0 e => ?_⟩
  · obtain ⟨d, t, ρ2, μ2, rfl, e1, e2⟩ := gsCons_inv e
    exact (h2.same _ _ _ _ _ e2).trans (h1.same _ _ _ _ _ e1)
  · obtain ⟨d, t, ρ2, μ2, rfl, e1, e2⟩ := gsCons_inv e
    obtain ⟨v, r, rfl, d1, d2⟩ := D0.cons_iff
    have hm := h1.same _ _ _ _ _ e1
    subst hm
    exact fun Q hQ => ⟨v, r, rfl, h1.to m H μ2 ρ σ d v ρ2 μ2 R E d1 e1 _ fun σ1 E1 w1 => h2.to m H μ2 ρ2 σ1 t r ρ1 μ1 R E1 d2 e2 Q fun σ2 E2 w2 => hQ σ2 E2 (w2.trans w1)⟩
theorem glc_tup {gs : TGs} {ggs : GsF} {vs : List Nat} {n : Nat} (h : GsLc K gs ggs vs n) : GLc K (gTup K n gs) (gT ggs) vs := by
  refine ⟨fun d ρ μ ρ1 μ1 e => ?_, fun m H μ ρ σ d x ρ1 μ1 R E D0 e => ?_⟩
  · unfold gT at e
    split at e
    · exact h.same _ _ _ _ _ e
    · cases e
  · unfold gT at e
    split at e
    · rename_i xs
      unfold DR at D0
      obtain ⟨p, ws, rfl, h1, h2⟩ := D0
      exact fun Q hQ => ⟨p, ws, rfl, h1, (by rw [← h2.length]; exact (h.len xs ρ μ fun z => by rw [z] at e; cases e)), h.to m H μ ρ σ xs ws ρ1 μ1 R E h2 e Q hQ⟩
    · cases e
/-- an object that the small heap does not know is written -/
theorem Ext.other {D : Addr} {o : HO} (R : Rp K m H μ) (E : Ext m H μ m' H' μ') (hD : H D = none) (nD : D ∉ m') : Ext m H μ m' (upd H' D o) μ' := by
  refine ⟨E.pre, fun b u e n => ?_, E.new, fun r p xs e1 e2 => ?_⟩
  · rw [upd_ne (ne_of_none e hD)]; exact E.oth b u e n
  · obtain ⟨k1, k2⟩ := E.lk r p xs e1 e2
    refine ⟨k1, (upd_ne fun z => ?_).trans k2⟩
    exact nD (by rw [← z]; exact E.mem (List.mem_of_getElem? e1))
theorem Rp.other {D : Addr} {o : HO} {ws : List V} (R : Rp K m H μ) (nD : D ∉ m) (e : H D = some (.lst ws)) : Rp K m (upd H D o) μ :=
  ⟨R.len, R.nd, fun r p u e1 e2 => OR.mono (fun _ _ e => e) (fun _ _ q => Mi.SqT.write e q) (fun _ _ q => q.write e) (upd_ne fun z => nD (by rw [← z]; exact List.mem_of_getElem? e1)) (R.ob r p u e1 e2)⟩
theorem lc_to {own : List Nat} {g : TG} {σ : L2.St} {H : Hp} {Q : VK} (hg : GLc K g gg own) (h : tE K C W (eLc own gg fi fc fe) σ H Q) : tLc (tI K C W fi) g (tT K C W0 fc) (tE K C W0 fe) own σ H Q := by
  obtain ⟨m, ρ, μ, R0, E0, P⟩ := h
  refine ⟨m, ρ, μ, R0, E0, ?_⟩
  unfold eLc at P
  cases q : fi ρ μ with
  | fail => rw [q] at P; exact P
  | exc c p μ1 => rw [q] at P; exact P
  | ok it μ1 =>
    rw [q] at P
    intro m1 H1 J E1 R1 I D hD
    have P : Post (TR K) K C (fun c d H => W c d σ H) m H μ (match lcGo gg fc fe (wip ρ own) it.xs (lockq it.lk it.xs μ1) with
      | .ok ds μ2 => cap it.xs.length (.ok (.new (.lst ds)) (unlockq it.lk μ1 μ2))
      | _ => .fail) Q := P
    have RL := I.lockR R1
    have EL := I.lockE
    obtain ⟨G, Y, hw, hG, hY⟩ := I.go
    cases ql : lcGo gg fc fe (wip ρ own) it.xs (lockq it.lk it.xs μ1) with
    | fail => rw [ql] at P; exact P.elim
    | exc _ _ _ => rw [ql] at P; exact P.elim
    | ok ds0 μ2 =>
      rw [ql] at P
      obtain ⟨hz, P⟩ := cap_post P
      have hDm : D ∉ m1 := R1.fresh hD
      have Ed : Ext m1 H1 (lockq it.lk it.xs μ1) m1 (upd H1 D (.lst [])) (lockq it.lk it.xs μ1) := Ext.laid RL hD
      refine lc_it hw (fun i H' => ∃ m' μ' acc vacc rest, Ext m1 H1 (lockq it.lk it.xs μ1) m' H' μ' ∧ Rp K m' H' μ' ∧ D ∉ m' ∧ H' D = some (.lst vacc) ∧ DsR K m' H' acc vacc ∧ acc.length ≤ i ∧
          lcGo gg fc fe (wip ρ own) (it.xs.drop i) μ' = .ok rest μ2 ∧ ds0 = acc ++ rest)
        ⟨m1, _, [], [], ds0, Ed, RL.laid hD, hDm, upd_same, .nil, Nat.zero_le _, by rw [List.drop_zero]; exact ql, rfl⟩
        (fun i H' _ ⟨m', μ', acc, vacc, rest, E, R, _⟩ => hG m' H' μ' E R) (fun i x H' H2 hi ⟨m', μ', acc, vacc, rest, E, R, nD, eD, hA, hl, hL, hds⟩ y => ?_)
        (fun H' ⟨m', μ', acc, vacc, rest, E, R, nD, eD, hA, hl, hL, hds⟩ => ?_)
      · obtain ⟨d, ed, Exd, Rd, Dd⟩ := hY i x m' H' μ' H2 hi E R y
        have hd : it.xs.drop i = d :: it.xs.drop (i + 1) := by
          rw [List.drop_eq_getElem_cons hi]
          obtain ⟨_, e2⟩ := List.getElem?_eq_some_iff.mp ed
          rw [e2]
        rw [hd] at hL
        have Ez : Ext m1 H1 (lockq it.lk it.xs μ1) m' H2 μ' := E.trans Exd
        have Ew : Re K m' (wipe σ own) H2 (wip ρ own) := (((E0.ext E1 R0).ext EL R1).ext Ez RL).wip own
        have eD2 : H2 D = some (.lst vacc) := Exd.oth D _ eD nD
        have hA2 := hA.ext Exd R
        unfold lcGo at hL
        cases qg : gg d (wip ρ own) μ' with
        | fail => rw [qg] at hL; cases hL
        | exc _ _ _ => rw [qg] at hL; cases hL
        | ok ρ3 μ3 =>
          rw [qg] at hL
          have hm := hg.same _ _ _ _ _ qg
          subst hm
          refine hg.to m' H2 μ3 (wip ρ own) (L2.wipe σ own) d x ρ3 μ3 Rd Ew Dd qg _ fun σ3 T3 w3 => ?_
          refine ⟨?_, m', ρ3, μ3, Rd, T3, ?_⟩
          · rw [w3]
            exact wipe_wipe
          dsimp only at hL
          cases qc : fc ρ3 μ3 with
          | fail => rw [qc] at hL; cases hL
          | exc _ _ _ => rw [qc] at hL; cases hL
          | ok k μ4 =>
            rw [qc] at hL
            intro m4 H4 k' E4 R4 ek
            subst ek
            have Ea : Ext m' H2 μ3 m4 H4 μ4 := E4
            have nD4 : D ∉ m4 := fun z => by
              rw [Ea.new D z nD] at eD2; cases eD2
            have eD4 := Ea.oth D _ eD2 nD
            have hA4 := hA2.ext Ea Rd
            cases k with
            | false =>
              exact iteF ⟨m4, μ4, acc, vacc, rest, Ez.trans Ea, R4, nD4, eD4, hA4, by omega, hL, hds⟩
            | true =>
              refine iteT ⟨m4, ρ3, μ4, R4, T3.ext E4 Rd, ?_⟩
              dsimp only at hL
              cases qe : fe ρ3 μ4 with
              | fail => rw [qe] at hL; cases hL
              | exc _ _ _ => rw [qe] at hL; cases hL
              | ok t μ5 =>
                rw [qe] at hL
                intro m5 H5 v5 E5 R5 T5
                obtain ⟨u, E6, R6, D6⟩ := TC.mat E5 R5 T5
                have Eb : Ext m' H2 μ3 (m5 ++ u) H5 (mat t μ5).2 := Ea.trans E6
                have nD5 : D ∉ m5 ++ u := fun z => by
                  rw [Eb.new D z nD] at eD2; cases eD2
                have eD5 := Eb.oth D _ eD2 nD
                have hA5 := hA2.ext Eb Rd
                dsimp only at hL
                cases qr : lcGo gg fc fe (wip ρ own) (it.xs.drop (i + 1)) (mat t μ5).2 with
                | fail => rw [qr] at hL; cases hL
                | exc _ _ _ => rw [qr] at hL; cases hL
                | ok ds6 μ6 =>
                  rw [qr] at hL
                  cases hL
                  have hlen : acc.length < sizeLine := Nat.lt_of_le_of_lt hl (Nat.lt_of_lt_of_le hi (big_line hz))
                  -- the list at D has one more
                  have Rw2 : Rp K (m5 ++ u) (upd H5 D (.lst (vacc ++ [v5]))) (mat t μ5).2 := R6.other nD5 eD5
                  have hA6 : DsR K (m5 ++ u) (upd H5 D (.lst (vacc ++ [v5]))) (acc ++ [(mat t μ5).1]) (vacc ++ [v5]) :=
                    (hA5.append (.cons D6 .nil)).mono (fun _ _ e => e) (fun _ _ q => Mi.SqT.write eD5 q) (fun _ _ q => q.write eD5)
                  exact ⟨vacc, eD5, by rw [← hA5.length]; exact hlen, m5 ++ u, (mat t μ5).2, acc ++ [(mat t μ5).1], vacc ++ [v5], ds6, Ext.other RL (Ez.trans Eb) hD nD5, Rw2, nD5, upd_same, hA6, by simp; omega, qr, by rw [hds]; simp⟩
      · rw [List.drop_length] at hL
        unfold lcGo at hL
        cases hL
        rw [List.append_nil] at hds
        subst hds
        obtain ⟨Ef, Rf⟩ := unlock_ok I R1 E R
        refine P m' H' (.ref D) (E1.trans Ef) Rf ⟨⟨D, vacc, rfl, nD, eD, hA⟩, fun o p _ ep => ?_⟩
        cases ep
        exact E1.back R1 hD
/-- [elt for target in iter if ..] -/
theorem ev_lc {elt iter : Expr} {ifs : List Expr} {scope : Scope} {own : List (Str × Nat)} {g : TG} (hc : X.calm = true) (hN : X.N.Nodup) (hi : PI X tg iter (tI X.K C W fi)) (ok : BlkOk X.N X.env.scope scope own) (hgl : GLc X.K g gg (own.map (·.2)))
    (hg : ∀ (s : Shared) (H : Hp) (Ca : Addr) (cl : List (Str × Addr)) (fp : List Addr), PG (X.blk s H scope (compEnvC scope cl Ca X.env) fp) tg g)
    (ht : ∀ (s : Shared) (H : Hp) (Ca : Addr) (cl : List (Str × Addr)) (fp : List Addr), PTs (X.blk s H scope (compEnvC scope cl Ca X.env) fp) ifs (tT X.K C W0 fc))
    (he : ∀ (s : Shared) (H : Hp) (Ca : Addr) (cl : List (Str × Addr)) (fp : List Addr), PE (X.blk s H scope (compEnvC scope cl Ca X.env) fp) elt (tE X.K C W0 fe)) (hs : ∀ x, foldedSetIterable iter X.env x = pure x := by intro _; rfl) :
    PE X (.ListComp elt [⟨tg, iter, ifs, 0⟩] scope pos) (tE X.K C W (eLc (own.map (·.2)) gg fi fc fe)) :=
  PE.imp (pe_lc hc hN hi ok hg ht he hs) fun σ H Q h => lc_to hgl h
/-- name = [..] on one line -/
theorem sv_setLc (i : Nat) {y : Str} {py spos : Pos} {elt iter : Expr} {ifs : List Expr} {scope : Scope} {own : List (Str × Nat)} {g : TG} (hc : X.calm = true) (hN : X.N.Nodup) (hy : X.N[i]? = some y) (hyl : X.env.scope.names.lookup y = some .local)
    (hsw : swapsWith (.ListComp elt [⟨tg, iter, ifs, 0⟩] scope pos) (some (.Name y py)) spos.line X.env = pure true) (hi : PI X tg iter (tI X.K C W fi)) (ok : BlkOk X.N X.env.scope scope own) (hgl : GLc X.K g gg (own.map (·.2)))
    (hg : ∀ (s : Shared) (H : Hp) (Ca : Addr) (cl : List (Str × Addr)) (fp : List Addr), PG (X.blk s H scope (compEnvC scope cl Ca X.env) fp) tg g)
    (ht : ∀ (s : Shared) (H : Hp) (Ca : Addr) (cl : List (Str × Addr)) (fp : List Addr), PTs (X.blk s H scope (compEnvC scope cl Ca X.env) fp) ifs (tT X.K C W0 fc))
    (he : ∀ (s : Shared) (H : Hp) (Ca : Addr) (cl : List (Str × Addr)) (fp : List Addr), PE (X.blk s H scope (compEnvC scope cl Ca X.env) fp) elt (tE X.K C W0 fe)) (hs : ∀ x, foldedSetIterable iter X.env x = pure x := by intro _; rfl) :
    PS X (.Assign [.Name y py] (.ListComp elt [⟨tg, iter, ifs, 0⟩] scope pos) spos) (tS X.K C W (sAsg (gN i) (eLc (own.map (·.2)) gg fi fc fe))) := by
  refine PS.imp (ps_setLc hc hN hy hyl hsw hi ok hg ht he hs) fun D σ H h => ?_
  have key : tE X.K C W (eLc (own.map (·.2)) gg fi fc fe) σ H fun x H1 => gName i x σ H1 D.nx := by
    obtain ⟨m, ρ, μ, R0, E0, P⟩ := h
    refine ⟨m, ρ, μ, R0, E0, (Post.toS R0 E0 P).mono fun v H1 ⟨m1, μ1, t, E, R1, T1, P0, P1⟩ => ?_⟩
    obtain ⟨u, E2, R2', D2⟩ := TC.mat E R1 T1
    exact (PostS.step E2 R2' P0) _ _ _ .refl R2' ((E0.ext E2 R0).set D2)
  exact lc_to hgl key
end
end Mi
end
section
set_option Elab.async false
set_option linter.all false
set_option maxRecDepth 100000
set_option maxHeartbeats 1000000
/-! MiJ: defs. -/
namespace Mi
open PySem PySem.Spec PyProof.Rows L2
section
variable {P : Program} {w : World} {K : PySem.W.Frag} {mg : Str → Option Value} {base : Heap} {C : CT} {W : WX} {m m1 m' : List Addr} {H H1 H' : Hp} {μ μ1 μ' : Hq}
mutual
theorem DR.any : ∀ {d : D} {v : V}, d.pure = true → DR K m H d v → DR K m' H d v
  | .non, _, _, h => by unfold DR at h ⊢; exact h
  | .bl _, _, _, h => by unfold DR at h ⊢; exact h
  | .int _, _, _, h => by unfold DR at h ⊢; exact h
  | .str _, _, _, h => by unfold DR at h ⊢; exact h
  | .tup ds, _, p, h => by
    unfold DR at h ⊢
    unfold D.pure at p
    obtain ⟨a, vs, e, h1, h2⟩ := h
    exact ⟨a, vs, e, h1, DsR.any p h2⟩
  | .fl ds, _, p, h => by
    unfold DR at h ⊢
    unfold D.pure at p
    obtain ⟨a, vs, e, h1, h2⟩ := h
    exact ⟨a, vs, e, h1, DsR.any p h2⟩
  | .ref r, _, p, h => by unfold D.pure at p; cases p
theorem DsR.any : ∀ {ds : List D} {vs : List V}, D.pures ds = true → DsR K m H ds vs → DsR K m' H ds vs
  | [], _, _, h => by unfold DsR at h ⊢; exact h
  | d :: ds, _, p, h => by
    unfold DsR at h ⊢
    unfold D.pures at p
    rw [Bool.and_eq_true] at p
    obtain ⟨v, t, e, h1, h2⟩ := h
    exact ⟨v, t, e, DR.any p.1 h1, DsR.any p.2 h2⟩
end
theorem Rp.nil : Rp K [] H [] := ⟨rfl, List.nodup_nil, fun r a o e _ => by simp at e⟩
/-- a call that ran alone leaves the caller's small heap as it is -/
theorem Ext.alone (R : Rp K m H μ) (E : Ext [] H [] m1 H1 μ1) : Ext m H μ m H1 μ ∧ Rp K m H1 μ := by
  have ht : ∀ a vs, SqT K H a vs → SqT K H1 a vs := fun a vs q => Mi.SqT.ext E Rp.nil q
  have hf : ∀ a vs, FzL K H a vs → FzL K H1 a vs := fun a vs q => q.ext E Rp.nil
  have he : ∀ (r : Nat) (a : Addr), m[r]? = some a → H1 a = H a := fun r a e => by
    obtain ⟨ys, q⟩ := R.mem (List.mem_of_getElem? e)
    rw [q]; exact E.oth a _ q (by simp)
  exact ⟨⟨⟨[], by simp⟩, fun b o e _ => E.oth b o e (by simp), fun b hb n => absurd hb n, fun r a xs e1 e2 => ⟨e2, he r a e1⟩⟩,
    ⟨R.len, R.nd, fun r a o e1 e2 => OR.mono (fun _ _ e => e) ht hf (he r a e1) (R.ob r a o e1 e2)⟩⟩
theorem slots_Re {N : List Str} {ds : List D} {vs : List V} (h : DsR K m H ds vs) (hl : ds.length ≤ N.length) : Re K m (L2.start N vs) H (slots N.length ds) := by
  have hlen := h.length
  refine ⟨by unfold slots L2.start; simp [hlen], fun i d e => ?_⟩
  unfold slots at e
  unfold L2.start
  by_cases hi : i < ds.length
  · rw [List.getElem?_append_left (by simpa using hi), List.getElem?_map] at e
    cases q : ds[i]? with
    | none => rw [q] at e; cases e
    | some d' =>
      rw [q] at e; cases e
      obtain ⟨v, e1, e2⟩ := h.get q
      exact ⟨v, by rw [List.getElem?_append_left (by simp; omega), List.getElem?_map, e1]; rfl, e2⟩
  · rw [List.getElem?_append_right (by simpa using hi), List.getElem?_replicate] at e
    split at e <;> cases e
/-- THE END of a def: its body's reading at its combinator keeps the promise -/
theorem fn_ok {tab : List FD} {i k : Nat} {fdv : FD} {x qual : Str} {st : Stmt} {f : Addr} {fd : FuncData} {N ps : List Str} (F : Fun K x qual st f fd) (S : FnScope N ps (defScope st)) (hi : tab[i]? = some fdv) (hnp : fdv.np = ps.length) (hnn : fdv.nn = N.length)
    (hbody : ∀ (cdv : Value) (A : Around) (outer : List Env) (s : Shared) (H : Hp) (E : XK), Room k (A.deeper (envOfC qual (defScope st) s.heap.objs.size f cdv)) →
      PSs (cxOf (L2.CX P w) P w K mg base N qual (defScope st) f cdv A outer s H E) (defBody st) (tS K C (fun c d _ H => E c d H) (fdv.body (callF tab k)))) :
    FnOk P w K mg base (L2.CX P w) (k + 1) f fd ps (spG K C (callF tab (k + 1) i)) := by
  have hps : ps.length ≤ N.length := by
    have := congrArg List.length S.pre
    rw [List.length_take] at this; omega
  have hcall : ∀ ds μ, callF tab (k + 1) i ds μ = if ds.length = fdv.np then (if D.pures ds then (alone μ (enter fdv (callF tab k) ds [])).orE (enter fdv (callF tab k) ds μ) else enter fdv (callF tab k) ds μ) else .fail := fun ds μ => by
    show (match tab[i]? with | some fd => _ | none => _) = _
    rw [hi]
  refine Fun.okX F S (fun vs H Q E h => ?_) (fun cdv A outer s H vs Q E hr h => ?_)
  · obtain ⟨m, μ, ds, R, D0, P0⟩ := h
    rw [hcall] at P0
    by_cases hl : ds.length = fdv.np
    · rw [← D0.length, hl, hnp]
    · rw [if_neg hl] at P0; exact P0.elim
  · obtain ⟨m, μ, ds, R, D0, P0⟩ := h
    rw [hcall] at P0
    by_cases hl : ds.length = fdv.np
    · rw [if_pos hl] at P0
      refine ⟨_, hbody cdv A outer s H E hr, ?_⟩
      have P1 : (D.pures ds = true ∧ Post (TR K) K C E m H μ (alone μ (enter fdv (callF tab k) ds [])) Q) ∨ Post (TR K) K C E m H μ (enter fdv (callF tab k) ds μ) Q := by
        by_cases hp : D.pures ds = true
        · rw [if_pos hp] at P0
          cases qa : alone μ (enter fdv (callF tab k) ds []) with
          | fail => rw [qa] at P0; exact .inr P0
          | ok t μx => rw [qa] at P0; exact .inl ⟨hp, P0⟩
          | exc c p μx => rw [qa] at P0; exact .inl ⟨hp, P0⟩
        · rw [if_neg hp] at P0
          exact .inr P0
      clear P0
      rcases P1 with ⟨hp, P0⟩ | P0
      · skip
        refine ⟨[], slots fdv.nn ds, [], Rp.nil, by rw [hnn]; exact slots_Re (D0.any hp) (by omega), ?_⟩
        unfold enter at P0
        cases q : fdv.body (callF tab k) (slots fdv.nn ds) [] with
        | fail => rw [q] at P0; exact P0
        | exc c p ρ1 μ1 =>
          rw [q] at P0
          intro m1 H1 σ1 dx E1 R1 _ pr
          have P0 : Post (TR K) K C E m H μ (if p.pure = true then .exc c p μ else .fail) Q := P0
          obtain ⟨Ea, Ra⟩ := Ext.alone R E1
          by_cases hpp : p.pure = true
          · rw [if_pos hpp] at P0
            refine P0 m H1 dx Ea Ra ?_
            rcases pr with pr | ⟨a, v, e1, e2, e3⟩
            · exact .inl pr
            · exact .inr ⟨a, v, e1, e2, e3.any hpp⟩
          · rw [if_neg hpp] at P0; exact P0.elim
        | ok fl ρ1 μ1 =>
          rw [q] at P0
          cases fl with
          | bk => exact P0.elim
          | ct => exact P0.elim
          | nx =>
            intro m1 H1 σ1 E1 R1 _
            obtain ⟨Ea, Ra⟩ := Ext.alone R E1
            exact P0 m H1 .non Ea Ra non_TR
          | rt t =>
            intro m1 H1 v E1 R1 T1
            obtain ⟨Ea, Ra⟩ := Ext.alone R E1
            have fin : ∀ (o : Ob) (a : Addr), o.pure = true → OR K m1 H1 a o → v = .ref a → H a = none → Post (TR K) K C E m H μ (.ok (.new o) μ) Q → Q v H1 := fun o a hpo ho ev hn P1 => by
              cases o with
              | lst xs =>
                obtain ⟨vs, e1, e2⟩ := ho
                exact P1 m H1 v Ea Ra ⟨⟨a, vs, ev, R.fresh hn, e1, e2.any hpo⟩, fun o b _ eb => by rw [ev] at eb; cases eb; exact hn⟩
              | fz _ => cases hpo
              | dic _ => cases hpo
              | fd _ => cases hpo
            have P0 : Post (TR K) K C E m H μ (alone μ (.ok t μ1)) Q := P0
            have hval : ∀ d : D, t = .val d → Post (TR K) K C E m H μ (if d.pure = true then .ok (.val d) μ else .fail) Q → Q v H1 := fun d et P1 => by
              subst et
              by_cases hpd : d.pure = true
              · rw [if_pos hpd] at P1
                exact P1 m H1 v Ea Ra (TR.val (DR.any hpd T1.1))
              · rw [if_neg hpd] at P1; exact P1.elim
            cases t with
            | new o =>
              have P1 : Post (TR K) K C E m H μ (if o.pure = true then .ok (.new o) μ else .fail) Q := P0
              by_cases hpo : o.pure = true
              · rw [if_pos hpo] at P1
                cases o with
                | lst xs =>
                  obtain ⟨⟨a, vs, ev, nm, e1, e2⟩, fr⟩ := T1
                  exact fin _ a hpo ⟨vs, e1, e2⟩ ev (fr _ a rfl ev) P1
                | fz _ => cases hpo
                | dic _ => cases hpo
                | fd _ => cases hpo
              · rw [if_neg hpo] at P1; exact P1.elim
            | val d =>
              cases d with
              | ref r =>
                have P1 : Post (TR K) K C E m H μ (match μ1[r]? with | some o => if o.pure then .ok (.new o) μ else .fail | none => .fail) Q := P0
                have T2 : DR K m1 H1 (.ref r) v := T1.1
                unfold DR at T2
                obtain ⟨a, ev, hr1⟩ := T2
                cases ho : μ1[r]? with
                | none => rw [ho] at P1; exact P1.elim
                | some o =>
                  rw [ho] at P1
                  dsimp only at P1
                  by_cases hpo : o.pure = true
                  · rw [if_pos hpo] at P1
                    exact fin o a hpo (R1.ob r a o hr1 ho) ev (E1.new a (List.mem_of_getElem? hr1) (by simp)) P1
                  · rw [if_neg hpo] at P1; exact P1.elim
              | non => exact hval _ rfl P0
              | bl b => exact hval _ rfl P0
              | int i => exact hval _ rfl P0
              | str s => exact hval _ rfl P0
              | tup xs => exact hval _ rfl P0
              | fl xs => exact hval _ rfl P0
      · skip
        refine ⟨m, slots fdv.nn ds, μ, R, by rw [hnn]; exact slots_Re D0 (by omega), ?_⟩
        unfold enter at P0
        cases q : fdv.body (callF tab k) (slots fdv.nn ds) μ with
        | fail => rw [q] at P0; exact P0
        | exc c p ρ1 μ1 =>
          rw [q] at P0
          exact fun m1 H1 σ1 dx E1 R1 _ pr => P0 m1 H1 dx E1 R1 pr
        | ok fl ρ1 μ1 =>
          rw [q] at P0
          cases fl with
          | bk => exact P0.elim
          | ct => exact P0.elim
          | nx => exact fun m1 H1 σ1 E1 R1 _ => P0 m1 H1 .non E1 R1 non_TR
          | rt t => exact fun m1 H1 v E1 R1 T1 => P0 m1 H1 v E1 R1 T1
    · rw [if_neg hl] at P0; exact P0.elim
end
end Mi
end
section
set_option Elab.async false
set_option linter.all false
set_option maxRecDepth 100000
set_option maxHeartbeats 1000000
/-! MiK: zip, op=, chains, items stored. -/
namespace Mi
open PySem PySem.Spec PyProof.Rows L2
section
variable {X : Cx} {C : CT} {W : WX} {a b c e tg : Expr} {fa fb fe : EF} {fc : TF} {es rest : List Expr} {as : AF} {pos : Pos} {m m1 m' : List Addr} {H H1 H' : Hp} {μ μ1 μ' : Hq} {K : PySem.W.Frag} {f : SF} {gg : GF} {fi : IF} {bod : List Stmt}
theorem walk_zipT {p q : Addr} {xs ys : List V} {n : Nat} (hn : n = min xs.length ys.length) : Walk (RZ.ItzT K p q) n (fun H => SqT K H p xs ∧ SqT K H q ys) (YPair (fun i => xs[i]?) (fun i => ys[i]?)) := by
  subst hn
  refine ⟨fun i _ hi q => ?_, fun _ q => ⟨xs, ys, q.1, q.2, by omega⟩, fun i H v H' _ q y => ?_⟩
  · have h1 : i < xs.length := by omega
    have h2 : i < ys.length := by omega
    exact ⟨xs, ys, xs[i], ys[i], q.1, q.2, by simp [h1], by simp [h2]⟩
  · obtain ⟨T, x, z, h1, h2, h3, h4, h5⟩ := y
    exact ⟨T, x, z, h1, h2, h3, h4 xs q.1, h5 ys q.2⟩
theorem zipD_len : ∀ (xs ys : List D), (zipD xs ys).length = min xs.length ys.length
  | [], _ => by simp [zipD]
  | _ :: _, [] => by simp [zipD]
  | x :: xs, y :: ys => by
    show (zipD xs ys).length + 1 = _
    rw [zipD_len xs ys]
    simp only [List.length_cons]
    omega
theorem zipD_get : ∀ (xs ys : List D) (i : Nat) (x y : D), xs[i]? = some x → ys[i]? = some y → (zipD xs ys)[i]? = some (.tup [x, y])
  | [], _, _, _, _, h, _ => by simp at h
  | _ :: _, [], _, _, _, _, h => by simp at h
  | x :: xs, y :: ys, 0, a, b, h, g => by simp at h g; subst h; subst g; rfl
  | x :: xs, y :: ys, i + 1, a, b, h, g => zipD_get xs ys i a b (by simpa using h) (by simpa using g)
theorem itr_zip {xs ys : List D} {p q : Addr} {vs ws : List V} (R : Rp K m H μ) (h1 : SqT K H p vs) (h2 : DsR K m H xs vs) (g1 : SqT K H q ws) (g2 : DsR K m H ys ws) : ItR K m H μ ⟨zipD xs ys, none⟩ (RZ.ItzT K p q) := by
  refine ⟨fun r e => (nomatch e), (fun H => SqT K H p vs ∧ SqT K H q ws), YPair (fun i => vs[i]?) (fun i => ws[i]?), ?_, fun m' H' μ' E R' => ⟨Mi.SqT.ext E R h1, Mi.SqT.ext E R g1⟩, fun i x m1 H1 μ1 H2 hi E R1 y => ?_⟩
  · exact walk_zipT (by show (zipD xs ys).length = _; rw [zipD_len, h2.length, g2.length])
  · obtain ⟨T, v, w, rfl, hT, rfl, e1, e2⟩ := y
    obtain ⟨d1, q1, r1⟩ := (h2.ext E R).getV e1
    obtain ⟨d2, q2, r2⟩ := (g2.ext E R).getV e2
    have Ex : Ext m1 H1 μ1 m1 (upd H1 T (.tup [v, w])) μ1 := Ext.laid R1 hT
    refine ⟨_, zipD_get xs ys i d1 d2 q1 q2, Ex, R1.laid hT, ?_⟩
    unfold DR
    exact ⟨T, _, rfl, .inl (.inl upd_same), .cons (r1.ext Ex R1) (.cons (r2.ext Ex R1) .nil)⟩
theorem iv_zip {p tpos : Pos} {elts : List Expr} {kk : Nat} (hg : Gl X "zip") (hm : X.mg "zip" = none) (ha : PE X a (tE X.K C W fa)) (hb : PE X b (tE X.K C W fb)) (hs1 : starEach [b] X.env = (false, eval b X.env) :: starEach [] X.env := by rfl) (hs : starEach [a, b] X.env = (false, eval a X.env) :: starEach [b] X.env := by rfl) (hpl : (backTo pos (starEach [b] X.env)).any (·.1) = false := by rfl) :
    PI X (.Tuple elts kk tpos) (.Call (.Name "zip" p) [a, b] [] pos) (tI X.K C W (iZip fa fb)) := by
  refine PI.imp (RZ.pi_zipA hg hm (pa_cons ha (pa_cons hb pa_nil hs1) hs) hs hpl) fun σ H Q h => ?_
  obtain ⟨m, ρ, μ, R0, E0, P⟩ := h
  refine ⟨m, ρ, μ, R0, E0, (PostI.bind P).mono fun v H1 ⟨m1, μ1, t, E, R1, T1, P1⟩ => ?_⟩
  refine ⟨m1, ρ, μ1, R1, E0.ext E R0, (PostI.bind P1).mono fun w H2 ⟨m2, μ2, t2, F, R2', T2, P2⟩ => ?_⟩
  have e1 := T1.1.ext F R1
  have e2 := T2.1
  clear T1 T2
  split at P2
  · obtain ⟨p, vs, rfl, h1, h2⟩ := tup_TC e1
    obtain ⟨q, ws, rfl, g1, g2⟩ := tup_TC e2
    exact ⟨p, q, vs, ws, rfl, .inr ⟨h1, g1, PostI.ok R2' P2 (itr_zip R2' h1 h2 g1 g2)⟩⟩
  · exact P2.elim
/-! ### isinstance -/
theorem ev_isi {p p2 : Pos} {x : Str} {t : Ty} (ha : PE X a (tE X.K C W fa)) (hg : Gl X "isinstance") (hm : X.mg "isinstance" = none) (hg2 : Gl X x) (hm2 : X.mg x = none) (hv2 : bootBuiltins x = some (.type t.name)) (hn2 : x ≠ "__name__" := by decide) (hd2 : (x == ("__debug__" : Str)) = false := by decide)
    (hs1 : starEach [(.Name x p2 : Expr)] X.env = (false, eval (.Name x p2) X.env) :: starEach [] X.env := by rfl) (hs : starEach [a, .Name x p2] X.env = (false, eval a X.env) :: starEach [.Name x p2] X.env := by rfl) (hpl : (backTo pos (starEach [(.Name x p2 : Expr)] X.env)).any (·.1) = false := by rfl) :
    PE X (.Call (.Name "isinstance" p) [a, .Name x p2] [] pos) (tE X.K C W (e1 (opIsi t) fa)) := by
  refine PE.imp (pe_callB call_isi hg hm (by decide +kernel) (pa_cons ha (pa_cons (pe_bltn (v := .ty t.name) hg2 hm2 hv2 rfl hn2 hd2) pa_nil hs1) hs) (by decide) (by decide) hs hpl) fun σ H Q h => ?_
  exact e1_to (o_isi (t := t)) h
/-! ### subscripts -/
theorem ev_ix (ha : PE X a (tE X.K C W fa)) (hb : PE X b (tE X.K C W fb)) (hs : PlainIx b) : PE X (.Subscript a b pos) (tE X.K C W (e2 opIx fa fb)) := PE.imp (pe_ix ix_seq ha hb hs) fun _ _ _ h => e2_to o_ix h
/-! ### op= -/
theorem sv_aug (i : Nat) {x : Str} {o : Operator} {op : O2} {ti : TIp} {pos' : Pos} (hN : X.N.Nodup) (hi : X.N[i]? = some x) (hx : Loc X.env.scope x) (he : PE X e (tE X.K C W fe)) (ho : PIp X o ti) (hop : Op2 X.K op ti)
    (hf : X.fn x = true ∨ X.env.scope.names.lookup x = some .local := by first | exact .inl rfl | exact .inr rfl | assumption) : PS X (.AugAssign (.Name x pos') o e pos) (tS X.K C W (sAug i op fe)) := PS.imp (ps_aug hN hi hx he ho hf) fun D σ H h => by
  obtain ⟨m, ρ, μ, R0, E0, P⟩ := h
  unfold sAug at P
  cases q : ρ[i]? with
  | none => rw [q] at P; exact P.elim
  | some o' =>
    cases o' with
    | none => rw [q] at P; exact P.elim
    | some d =>
      rw [q] at P
      obtain ⟨v, e1, e2⟩ := E0.at_ i d q
      refine ⟨v, e1, m, ρ, μ, R0, E0, (Post.toS (rel := TR X.K) R0 E0 P).mono fun w H1 ⟨m1, μ1, y, E, R1, T1, P0, P1⟩ => ?_⟩
      refine hop C (fun c d H => W c d σ H) m1 H1 μ1 (.val d) y v w _ R1 (e2.ext E R0) T1.1 ?_
      have E1 := E0.ext E R0
      refine (Post.toS (rel := TR X.K) R1 E1 P1).mono fun z H2 ⟨m2, μ2, t, F, R2', T2, P20, P2⟩ => ?_
      obtain ⟨u, F2, R3, D3⟩ := TC.mat F R2' T2
      exact (PostS.step F2 R3 P20) _ _ _ .refl R3 ((E1.ext F2 R1).set D3)
theorem o_addI : Op2 K opAddI (ipI fun i j => i + j) := by
  intro C W m H μ x y v1 v2 Q R T1 T2 P
  unfold opAddI at P
  split at P
  · exact ⟨_, _, int_TC T1, int_TC T2, Post.ok R P int_TR⟩
  · exact P.elim
theorem o_subI : Op2 K opSub (ipI fun i j => i - j) := o_sub
end
end Mi
end
section
set_option Elab.async false
set_option linter.all false
set_option maxRecDepth 100000
set_option maxHeartbeats 1000000
/-! MiL: the script, names of built-ins, the law's end. -/
namespace Mi
open PySem PySem.Spec PyProof.Rows L2
theorem fz_script {K : PySem.W.Frag} {H : Hp} {a : Addr} {vs : List V} (ho : Only H) (h : SqL K H a vs) : FzL K H a vs := fun H' k => by
  rcases h with (h | ⟨o, h⟩) | h
  · rcases ho a with e | ⟨o, xs, e⟩ <;> rw [h] at e <;> cases e
  · exact .inl (.inr ⟨o, k _ _ _ h⟩)
  · exact .inr h
theorem ints_DsR {K : PySem.W.Frag} {m : List Addr} {H : Hp} : ∀ ns : List Int, DsR K m H (ns.map D.int) (ns.map V.int)
  | [] => .nil
  | n :: ns => .cons (by unfold DR; rfl) (ints_DsR ns)
/-- the law's call: what the combinator says of each script is what is asked -/
theorem sp_law {K : PySem.W.Frag} {C : CT} {g : List D → Hq → R Tv} {H : Hp} {a : Addr} {ns : List Int} (ho : Only H) (h : SqL K H a (ns.map V.int)) (hg : ∃ μ, g [.fl (ns.map .int)] [] = .ok (.val (.bl true)) μ) :
    spG K C g [.ref a] H (fun v _ => v = .bl true) fun _ _ _ => False := by
  obtain ⟨μ, e⟩ := hg
  refine ⟨[], [], [.fl (ns.map .int)], Rp.nil, .cons ?_ .nil, ?_⟩
  · unfold DR
    exact ⟨a, _, rfl, fz_script ho h, ints_DsR ns⟩
  · rw [e]
    exact fun m' H' v _ _ T => bl_TC T.1
theorem cx_false {P : Program} {w : World} {H : Hp} {s : Shared} {e : Value} {s' : Shared} (h : L2.CX P w [] H s (fun _ _ _ => False) e s') : False := by
  obtain ⟨_, _, _, _, _, _, _, _, _, _, _, _, z⟩ := h
  exact z
theorem bt_abs : bootBuiltins "abs" = some (.builtin "abs") := by decide +kernel
theorem bt_all : bootBuiltins "all" = some (.builtin "all") := by decide +kernel
theorem bt_any : bootBuiltins "any" = some (.builtin "any") := by decide +kernel
theorem bt_sum : bootBuiltins "sum" = some (.builtin "sum") := by decide +kernel
theorem bt_len : bootBuiltins "len" = some (.builtin "len") := by decide +kernel
theorem bt_int : bootBuiltins "int" = some (.type "int") := by decide +kernel
theorem bt_bool : bootBuiltins "bool" = some (.type "bool") := by decide +kernel
theorem bt_str : bootBuiltins "str" = some (.type "str") := by decide +kernel
theorem bt_tuple : bootBuiltins "tuple" = some (.type "tuple") := by decide +kernel
theorem bt_list : bootBuiltins "list" = some (.type "list") := by decide +kernel
theorem bt_dict : bootBuiltins "dict" = some (.type "dict") := by decide +kernel
theorem hu64 {k : Nat} {A : Around} (r : Room k A) : A.units + 64 < cLine := r.units
/-- a def that is called -/
theorem fk_of {P : Program} {w : World} {K : PySem.W.Frag} {mg : Str → Option Value} {base : Heap} {C : CT} {n i : Nat} {cf : CF} {x qual : Str} {st : Stmt} {f : Addr} {fd : FuncData} {ps : List Str} (F : Fun K x qual st f fd) (hm : mg x = some (.ref f)) (hb : Binds K fd ps [])
    (h : FnOk P w K mg base (L2.CX P w) n f fd ps (spG K C (cf i))) : Fk P w K mg base C n cf i x := ⟨⟨f, fd, ps, h, hm, F.kp, hb⟩⟩
theorem fn_zero {P : Program} {w : World} {K : PySem.W.Frag} {mg : Str → Option Value} {base : Heap} {C : CT} {tab : List FD} {i : Nat} {f : Addr} {fd : FuncData} {ps : List Str} : FnOk P w K mg base (L2.CX P w) 0 f fd ps (spG K C (callF tab 0 i)) :=
  ⟨fun vs H Q E h => by obtain ⟨m, μ, ds, _, _, z⟩ := h; exact z.elim, fun A outer s H args us vs Q E _ _ _ _ h => by obtain ⟨m, μ, ds, _, _, z⟩ := h; exact z.elim⟩
end Mi
end
section
set_option Elab.async false
set_option linter.all false
set_option maxRecDepth 100000
set_option maxHeartbeats 1000000
/-! MiM: order of data, membership, sorting: the combinators of MiA2 are what the model does. -/
namespace Mi
open PySem PySem.Spec PyProof.Rows L2
/-! ### alike, before -/
theorem allq_ok {n : Nat} (ih : ∀ {x y : D}, D.alk n x y = true → PySem.W.alike x.py y.py = true) : ∀ {xs ys : List D}, allq (D.alk n) xs ys = true → PySem.W.alikeAll (D.pys xs) (D.pys ys) = true
  | [], ys, _ => by unfold D.pys; cases ys <;> (unfold PySem.W.alikeAll; rfl)
  | x :: xs, [], _ => by unfold D.pys PySem.W.alikeAll; rfl
  | x :: xs, y :: ys, h => by
    have h : (D.alk n x y && allq (D.alk n) xs ys) = true := h
    obtain ⟨h1, h2⟩ := Bool.and_eq_true_iff.mp h
    unfold D.pys PySem.W.alikeAll
    rw [ih h1, allq_ok ih h2]; rfl
theorem alk_ok : ∀ {n : Nat} {x y : D}, D.alk n x y = true → PySem.W.alike x.py y.py = true := by
  intro n
  induction n with
  | zero =>
    intro x y h
    cases x <;> cases y <;> simp only [D.alk] at h <;> first | contradiction | (simp only [D.py, PySem.W.alike])
  | succ n ih =>
    intro x y h
    cases x <;> cases y <;> simp only [D.alk] at h <;> first | contradiction | (simp only [D.py, PySem.W.alike]; done) | (simp only [D.py, PySem.W.alike]; exact allq_ok ih h)
theorem lexN_ok : ∀ xs ys : List Nat, lexN xs ys = decide (xs < ys)
  | [], [] => by simp [lexN]
  | [], y :: ys => by simp [lexN]
  | x :: xs, [] => by simp [lexN]
  | x :: xs, y :: ys => by
    unfold lexN
    rw [lexN_ok xs ys]
    by_cases h : x = y
    · subst h; simp [List.cons_lt_cons_iff]
    · rw [if_neg h]; simp [List.cons_lt_cons_iff, h]
theorem lexD_ok {n : Nat} (ih : ∀ {x y : D}, x.dep n = true → y.dep n = true → D.alk n x y = true → D.blt n x y = PySem.W.dataLt x.py y.py) : ∀ {xs ys : List D}, xs.all (D.dep n) = true → ys.all (D.dep n) = true → allq (D.alk n) xs ys = true →
    lexD (D.eqv n) (D.blt n) xs ys = PyProof.Rows.lexLt itemOrd (PySem.W.keyToksAll (D.pys xs)) (PySem.W.keyToksAll (D.pys ys))
  | [], [], _, _, _ => by unfold D.pys lexD; exact (lex_irrefl _).symm
  | [], y :: ys, _, _, _ => by
    unfold D.pys PySem.W.keyToksAll lexD
    rw [lex_diff (by intro z; cases z)]; rfl
  | x :: xs, [], _, _, _ => by
    unfold D.pys PySem.W.keyToksAll lexD
    rw [lex_diff (by intro z; cases z)]; rfl
  | x :: xs, y :: ys, h1, h2, h3 => by
    have h3 : (D.alk n x y && allq (D.alk n) xs ys) = true := h3
    obtain ⟨a1, a2⟩ := Bool.and_eq_true_iff.mp h3
    rw [List.all_cons, Bool.and_eq_true_iff] at h1 h2
    unfold D.pys
    rw [PySem.W.dataLt_cons (alk_ok a1), ← lexD_ok ih h1.2 h2.2 a2, ← ih h1.1 h2.1 a1, ← eqv_ok h1.1 h2.1]
    rfl
theorem blt_bool (a b : Bool) : D.blt n (.bl a) (.bl b) = PySem.W.dataLt (.bool a) (.bool b) := by
  rw [PySem.W.dataLt_bool]
  cases n <;> cases a <;> cases b <;> rfl
theorem blt_ok : ∀ {n : Nat} {x y : D}, x.dep n = true → y.dep n = true → D.alk n x y = true → D.blt n x y = PySem.W.dataLt x.py y.py := by
  intro n
  induction n with
  | zero =>
    intro x y hx hy h
    cases x <;> cases y <;> simp only [D.alk] at h <;> first
      | contradiction
      | (simp only [D.blt, D.py]; exact (lex_irrefl _).symm)
      | (simp only [D.py]; exact blt_bool _ _)
      | (simp only [D.blt, D.py]; rw [PySem.W.dataLt_int])
      | (simp only [D.blt, D.py]; rw [PySem.W.dataLt_str, lexN_ok])
  | succ n ih =>
    intro x y hx hy h
    cases x <;> cases y <;> simp only [D.alk] at h <;> first
      | contradiction
      | (simp only [D.blt, D.py]; exact (lex_irrefl _).symm)
      | (simp only [D.py]; exact blt_bool _ _)
      | (simp only [D.blt, D.py]; rw [PySem.W.dataLt_int])
      | (simp only [D.blt, D.py]; rw [PySem.W.dataLt_str, lexN_ok])
      | (unfold D.dep at hx hy; unfold D.blt D.py; rw [PySem.W.dataLt_tuple]; exact lexD_ok ih hx hy h)
      | (unfold D.dep at hx hy; unfold D.blt D.py; rw [PySem.W.dataLt_list]; exact lexD_ok ih hx hy h)
/-! ### comparisons -/
def rOrd (K : PySem.W.Frag) (f : PyData → PyData → Bool) : R2 := fun x y H Q => ∃ d e, Dp K H x d ∧ Dp K H y e ∧ PySem.W.alike d e = true ∧ d ≠ .none ∧ d.depth ≤ 60 ∧ Q (.bl (f d e)) H
section
variable {X : Cx}
theorem op_ltD (hu : X.A.units + 64 < cLine) : OpR X (compareOp .Lt) (rOrd X.K fun d e => PySem.W.dataLt d e) := by
  intro pins s σ H x y v u Q I rx ry h
  obtain ⟨d, e, hd, he, ha, hn, hz, q⟩ := h
  obtain ⟨as, r1⟩ := Dp.reads I d x v hd rx
  obtain ⟨bs, r2⟩ := Dp.reads I e y u he ry
  exact PySem.W.lt_data r1 r2 ha hn (by have := Nat.min_le_left d.depth e.depth; omega) ⟨.bl _, H, I, rfl, q⟩
theorem op_gtD (hu : X.A.units + 64 < cLine) : OpR X (compareOp .Gt) (rOrd X.K fun d e => PySem.W.dataLt e d) := by
  intro pins s σ H x y v u Q I rx ry h
  obtain ⟨d, e, hd, he, ha, hn, hz, q⟩ := h
  obtain ⟨as, r1⟩ := Dp.reads I d x v hd rx
  obtain ⟨bs, r2⟩ := Dp.reads I e y u he ry
  exact PySem.W.gt_data r1 r2 ha hn (by have := Nat.min_le_left d.depth e.depth; omega) ⟨.bl _, H, I, rfl, q⟩
theorem op_leD (hu : X.A.units + 64 < cLine) : OpR X (compareOp .LtE) (rOrd X.K fun d e => !PySem.W.dataLt e d) := by
  intro pins s σ H x y v u Q I rx ry h
  obtain ⟨d, e, hd, he, ha, hn, hz, q⟩ := h
  obtain ⟨as, r1⟩ := Dp.reads I d x v hd rx
  obtain ⟨bs, r2⟩ := Dp.reads I e y u he ry
  exact PySem.W.le_data r1 r2 ha hn (by have := Nat.min_le_left d.depth e.depth; omega) ⟨.bl _, H, I, rfl, q⟩
theorem op_geD (hu : X.A.units + 64 < cLine) : OpR X (compareOp .GtE) (rOrd X.K fun d e => !PySem.W.dataLt d e) := by
  intro pins s σ H x y v u Q I rx ry h
  obtain ⟨d, e, hd, he, ha, hn, hz, q⟩ := h
  obtain ⟨as, r1⟩ := Dp.reads I d x v hd rx
  obtain ⟨bs, r2⟩ := Dp.reads I e y u he ry
  exact PySem.W.ge_data r1 r2 ha hn (by have := Nat.min_le_left d.depth e.depth; omega) ⟨.bl _, H, I, rfl, q⟩
def rLtA (K : PySem.W.Frag) : R2 := fun x y H Q => rI0 (fun i j => .bl (decide (i < j))) x y H Q ∨ rOrd K (fun d e => PySem.W.dataLt d e) x y H Q
def rLeA (K : PySem.W.Frag) : R2 := fun x y H Q => rI0 (fun i j => .bl (decide (i ≤ j))) x y H Q ∨ rOrd K (fun d e => !PySem.W.dataLt e d) x y H Q
def rGtA (K : PySem.W.Frag) : R2 := fun x y H Q => rI0 (fun i j => .bl (decide (j < i))) x y H Q ∨ rOrd K (fun d e => PySem.W.dataLt e d) x y H Q
def rGeA (K : PySem.W.Frag) : R2 := fun x y H Q => rI0 (fun i j => .bl (decide (j ≤ i))) x y H Q ∨ rOrd K (fun d e => !PySem.W.dataLt d e) x y H Q
theorem op_ltA (hu : X.A.units + 64 < cLine) : OpR X (compareOp .Lt) (rLtA X.K) := op_lt.or (op_ltD hu)
theorem op_leA (hu : X.A.units + 64 < cLine) : OpR X (compareOp .LtE) (rLeA X.K) := op_le.or (op_leD hu)
theorem op_gtA (hu : X.A.units + 64 < cLine) : OpR X (compareOp .Gt) (rGtA X.K) := op_gt.or (op_gtD hu)
theorem op_geA (hu : X.A.units + 64 < cLine) : OpR X (compareOp .GtE) (rGeA X.K) := op_ge.or (op_geD hu)
end
section
variable {K : PySem.W.Frag} {m : List Addr} {H : Hp} {μ : Hq}
theorem D.notNon {a : D} (h : a.isNon = false) (hd : a.dep depth = true) : a.py ≠ .none := by
  cases a <;> first | (cases h; done) | (unfold D.py; intro z; cases z; done) | (unfold D.dep at hd; cases hd)
theorem ord_TC {x y : Tv} {v1 v2 : V} {a b : D} (R : Rp K m H μ) (T1 : TC K m H x v1) (T2 : TC K m H y v2) (h : ordTv x y μ = some (a, b)) :
    Dp K H v1 a.py ∧ Dp K H v2 b.py ∧ PySem.W.alike a.py b.py = true ∧ a.py ≠ .none ∧ a.py.depth ≤ 60 ∧ D.blt depth a b = PySem.W.dataLt a.py b.py ∧ D.blt depth b a = PySem.W.dataLt b.py a.py := by
  unfold ordTv at h
  split at h
  · rename_i a' b' ha hb
    split at h
    · rename_i hc
      cases h
      obtain ⟨c1, c2⟩ := Bool.and_eq_true_iff.mp hc
      have c3 : a.isNon = false := by simpa using c2
      obtain ⟨p1, p2⟩ := dat_Dp R T1 ha
      obtain ⟨q1, q2⟩ := dat_Dp R T2 hb
      have hsym : D.alk depth b a = true := by
        have sy : ∀ (n : Nat) (x y : D), D.alk n x y = true → D.alk n y x = true := by
          intro n
          induction n with
          | zero =>
            intro x y h
            cases x <;> cases y <;> simp only [D.alk] at h ⊢ <;> contradiction
          | succ n ih =>
            have al : ∀ xs ys : List D, allq (D.alk n) xs ys = true → allq (D.alk n) ys xs = true := by
              intro xs
              induction xs with
              | nil => intro ys _; cases ys <;> rfl
              | cons x xs ihx =>
                intro ys h
                cases ys with
                | nil => rfl
                | cons y ys =>
                  have h : (D.alk n x y && allq (D.alk n) xs ys) = true := h
                  obtain ⟨h1, h2⟩ := Bool.and_eq_true_iff.mp h
                  show (D.alk n y x && allq (D.alk n) ys xs) = true
                  rw [ih x y h1, ihx ys h2]; rfl
            intro x y h
            cases x <;> cases y <;> simp only [D.alk] at h ⊢ <;> first | contradiction | exact al _ _ h
        exact sy _ _ _ c1
      exact ⟨p1, q1, alk_ok c1, D.notNon c3 p2, Nat.le_trans (dep_ok p2).2 (by decide), blt_ok p2 q2 c1, blt_ok q2 p2 hsym⟩
    · cases h
  · cases h
theorem o_ltA : Op2 K opLtA (rLtA K) := by
  intro C W m H μ x y v1 v2 Q R T1 T2 P
  unfold opLtA at P
  split at P
  · exact .inl ⟨_, _, int_TC T1, int_TC T2, Post.ok R P bl_TR⟩
  · split at P
    · rename_i a b h
      obtain ⟨h1, h2, h3, h4, h5, h6, h7⟩ := ord_TC R T1 T2 h
      exact .inr ⟨_, _, h1, h2, h3, h4, h5, by dsimp only; rw [← h6]; exact Post.ok R P bl_TR⟩
    · exact P.elim
theorem o_leA : Op2 K opLeA (rLeA K) := by
  intro C W m H μ x y v1 v2 Q R T1 T2 P
  unfold opLeA at P
  split at P
  · exact .inl ⟨_, _, int_TC T1, int_TC T2, Post.ok R P bl_TR⟩
  · split at P
    · rename_i a b h
      obtain ⟨h1, h2, h3, h4, h5, h6, h7⟩ := ord_TC R T1 T2 h
      exact .inr ⟨_, _, h1, h2, h3, h4, h5, by dsimp only; rw [← h7]; exact Post.ok R P bl_TR⟩
    · exact P.elim
theorem o_gtA : Op2 K opGtA (rGtA K) := by
  intro C W m H μ x y v1 v2 Q R T1 T2 P
  unfold opGtA at P
  split at P
  · exact .inl ⟨_, _, int_TC T1, int_TC T2, Post.ok R P bl_TR⟩
  · split at P
    · rename_i a b h
      obtain ⟨h1, h2, h3, h4, h5, h6, h7⟩ := ord_TC R T1 T2 h
      exact .inr ⟨_, _, h1, h2, h3, h4, h5, by dsimp only; rw [← h7]; exact Post.ok R P bl_TR⟩
    · exact P.elim
theorem o_geA : Op2 K opGeA (rGeA K) := by
  intro C W m H μ x y v1 v2 Q R T1 T2 P
  unfold opGeA at P
  split at P
  · exact .inl ⟨_, _, int_TC T1, int_TC T2, Post.ok R P bl_TR⟩
  · split at P
    · rename_i a b h
      obtain ⟨h1, h2, h3, h4, h5, h6, h7⟩ := ord_TC R T1 T2 h
      exact .inr ⟨_, _, h1, h2, h3, h4, h5, by dsimp only; rw [← h6]; exact Post.ok R P bl_TR⟩
    · exact P.elim
end
theorem bl_ltA : BlOp opLtA := by
  intro x y μ t μ' h
  unfold opLtA at h
  split at h
  · cases h; exact ⟨_, rfl⟩
  · split at h
    · cases h; exact ⟨_, rfl⟩
    · cases h
theorem bl_leA : BlOp opLeA := by
  intro x y μ t μ' h
  unfold opLeA at h
  split at h
  · cases h; exact ⟨_, rfl⟩
  · split at h
    · cases h; exact ⟨_, rfl⟩
    · cases h
theorem bl_gtA : BlOp opGtA := by
  intro x y μ t μ' h
  unfold opGtA at h
  split at h
  · cases h; exact ⟨_, rfl⟩
  · split at h
    · cases h; exact ⟨_, rfl⟩
    · cases h
theorem bl_geA : BlOp opGeA := by
  intro x y μ t μ' h
  unfold opGeA at h
  split at h
  · cases h; exact ⟨_, rfl⟩
  · split at h
    · cases h; exact ⟨_, rfl⟩
    · cases h
/-! ### in -/
section
variable {X : Cx}
def rInT (K : PySem.W.Frag) : R2 := fun x y H Q => ∃ d ds, Dp K H x d ∧ Dp K H y (.tuple ds) ∧ SeqAt.shaped d = true ∧ SeqAt.shaped (.list ds) = true ∧ Q (.bl (ds.any fun z => PyData.eqv z d)) H
def rNotInT (K : PySem.W.Frag) : R2 := fun x y H Q => ∃ d ds, Dp K H x d ∧ Dp K H y (.tuple ds) ∧ SeqAt.shaped d = true ∧ SeqAt.shaped (.list ds) = true ∧ Q (.bl (!ds.any fun z => PyData.eqv z d)) H
theorem op_inT (hu : X.A.units + 65 < cLine) : OpR X (compareOp .In) (rInT X.K) := by
  intro pins s σ H x y v u Q I rx ry h
  obtain ⟨d, ds, hd, he, sd, se, q⟩ := h
  obtain ⟨as, r1⟩ := Dp.reads I d x v hd rx
  obtain ⟨bs, r2⟩ := Dp.reads I (.tuple ds) y u he ry
  exact SeqAt.in_tuple_reads r2 r1 (SeqAt.canLay_of_shaped se) (SeqAt.canLay_of_shaped sd) (room_in_shaped sd hu) ⟨.bl _, H, I, rfl, q⟩
theorem op_notInT (hu : X.A.units + 65 < cLine) : OpR X (compareOp .NotIn) (rNotInT X.K) := by
  intro pins s σ H x y v u Q I rx ry h
  obtain ⟨d, ds, hd, he, sd, se, q⟩ := h
  obtain ⟨as, r1⟩ := Dp.reads I d x v hd rx
  obtain ⟨bs, r2⟩ := Dp.reads I (.tuple ds) y u he ry
  exact SeqAt.notIn_tuple_reads r2 r1 (SeqAt.canLay_of_shaped se) (SeqAt.canLay_of_shaped sd) (room_in_shaped sd hu) ⟨.bl _, H, I, rfl, q⟩
def rInA (K : PySem.W.Frag) : R2 := fun x y H Q => rInS x y H Q ∨ (rInD K x y H Q ∨ rInT K x y H Q)
def rNotInA (K : PySem.W.Frag) : R2 := fun x y H Q => rNotInS x y H Q ∨ (rNotInD K x y H Q ∨ rNotInT K x y H Q)
theorem op_inA (hu : X.A.units + 65 < cLine) : OpR X (compareOp .In) (rInA X.K) := op_inS.or ((op_inD hu).or (op_inT hu))
theorem op_notInA (hu : X.A.units + 65 < cLine) : OpR X (compareOp .NotIn) (rNotInA X.K) := op_notInS.or ((op_notInD hu).or (op_notInT hu))
theorem hu65 {k : Nat} {A : Around} (r : Room k A) : A.units + 65 < cLine := by
  have := r.un
  omega
end
section
variable {K : PySem.W.Frag}
theorem dep_mono : ∀ {n : Nat} {d : D}, d.dep n = true → d.dep (n + 1) = true := by
  intro n
  induction n with
  | zero => intro d h; cases d <;> simp only [D.dep] at h ⊢ <;> first | contradiction | exact h
  | succ n ih =>
    intro d h
    have al : ∀ xs : List D, xs.all (D.dep n) = true → xs.all (D.dep (n + 1)) = true := fun xs h => List.all_eq_true.mpr fun x hx => ih (List.all_eq_true.mp h x hx)
    cases d <;> simp only [D.dep] at h ⊢ <;> first | contradiction | exact h | exact al _ h
theorem any_eqv {a : D} (ha : a.dep depth = true) : ∀ {ds : List D}, ds.all (D.dep 39) = true → (D.pys ds).any (fun z => PyData.eqv z a.py) = ds.any fun z => D.eqv depth z a
  | [], _ => by unfold D.pys; rfl
  | d :: ds, h => by
    rw [List.all_cons, Bool.and_eq_true_iff] at h
    unfold D.pys
    rw [List.any_cons, List.any_cons, any_eqv ha h.2, ← eqv_ok (n := depth) (dep_mono h.1) ha]
theorem o_in : Op2 K opIn (rInA K) := by
  intro C W m H μ x y v1 v2 Q R T1 T2 P
  unfold opIn at P
  split at P
  · rename_i b hb
    have fin := Post.ok R P bl_TR
    unfold inTv at hb
    split at hb
    · rename_i s t
      split at hb
      · rename_i c hc
        cases hb
        refine .inl ⟨c, t, ?_, str_TC T2, fin⟩
        rw [str_TC T1]
        congr 1
        rcases s with ⟨a⟩
        have hc : a.toList = [c] := hc
        rw [show a = #[c] from Array.toList_inj.mp hc]
      · cases hb
    · split at hb
      · rename_i a ds ha hd
        cases hb
        obtain ⟨p1, p2⟩ := dat_Dp R T1 ha
        obtain ⟨q1, q2⟩ := dat_Dp R T2 hd
        have q3 : ds.all (D.dep 39) = true := by unfold depth D.dep at q2; exact q2
        refine .inr (.inl ⟨_, D.pys ds, p1, by unfold D.py at q1; exact q1, shaped_of p2, ?_, by rw [any_eqv p2 q3]; exact fin⟩)
        have := shaped_of q2
        unfold D.py at this; exact this
      · rename_i a ds ha hd
        cases hb
        obtain ⟨p1, p2⟩ := dat_Dp R T1 ha
        obtain ⟨q1, q2⟩ := dat_Dp R T2 hd
        have q3 : ds.all (D.dep 39) = true := by unfold depth D.dep at q2; exact q2
        refine .inr (.inr ⟨_, D.pys ds, p1, by unfold D.py at q1; exact q1, shaped_of p2, ?_, by rw [any_eqv p2 q3]; exact fin⟩)
        have := shaped_of (d := .fl ds) (by unfold depth D.dep; exact q3)
        unfold D.py at this; exact this
      · cases hb
  · exact P.elim
theorem o_notIn : Op2 K opNotIn (rNotInA K) := by
  intro C W m H μ x y v1 v2 Q R T1 T2 P
  unfold opNotIn at P
  split at P
  · rename_i b hb
    have fin := Post.ok R P bl_TR
    unfold inTv at hb
    split at hb
    · rename_i s t
      split at hb
      · rename_i c hc
        cases hb
        refine .inl ⟨c, t, ?_, str_TC T2, fin⟩
        rw [str_TC T1]
        congr 1
        rcases s with ⟨a⟩
        have hc : a.toList = [c] := hc
        rw [show a = #[c] from Array.toList_inj.mp hc]
      · cases hb
    · split at hb
      · rename_i a ds ha hd
        cases hb
        obtain ⟨p1, p2⟩ := dat_Dp R T1 ha
        obtain ⟨q1, q2⟩ := dat_Dp R T2 hd
        have q3 : ds.all (D.dep 39) = true := by unfold depth D.dep at q2; exact q2
        refine .inr (.inl ⟨_, D.pys ds, p1, by unfold D.py at q1; exact q1, shaped_of p2, ?_, by rw [any_eqv p2 q3]; exact fin⟩)
        have := shaped_of q2
        unfold D.py at this; exact this
      · rename_i a ds ha hd
        cases hb
        obtain ⟨p1, p2⟩ := dat_Dp R T1 ha
        obtain ⟨q1, q2⟩ := dat_Dp R T2 hd
        have q3 : ds.all (D.dep 39) = true := by unfold depth D.dep at q2; exact q2
        refine .inr (.inr ⟨_, D.pys ds, p1, by unfold D.py at q1; exact q1, shaped_of p2, ?_, by rw [any_eqv p2 q3]; exact fin⟩)
        have := shaped_of (d := .fl ds) (by unfold depth D.dep; exact q3)
        unfold D.py at this; exact this
      · cases hb
  · exact P.elim
end
theorem bl_in : BlOp opIn := by
  intro x y μ t μ' h
  unfold opIn at h
  split at h
  · cases h; exact ⟨_, rfl⟩
  · cases h
theorem bl_notIn : BlOp opNotIn := by
  intro x y μ t μ' h
  unfold opNotIn at h
  split at h
  · cases h; exact ⟨_, rfl⟩
  · cases h
end Mi
end
section
set_option Elab.async false
set_option linter.all false
set_option maxRecDepth 100000
set_option maxHeartbeats 1000000
/-! MiN: sorted. -/
namespace Mi
open PySem PySem.Spec PyProof.Rows L2
/-! ### sorting by insertion is the sorting -/
section
variable {α : Type}
def insG (le : α → α → Bool) (x : α) : List α → List α
  | [] => [x]
  | y :: ys => if le x y then x :: y :: ys else y :: insG le x ys
def isoG (le : α → α → Bool) : List α → List α
  | [] => []
  | x :: xs => insG le x (isoG le xs)
theorem insG_perm (le : α → α → Bool) (x : α) : ∀ ys : List α, (insG le x ys).Perm (x :: ys)
  | [] => List.Perm.refl _
  | y :: ys => by
    unfold insG
    by_cases h : le x y = true
    · rw [if_pos h]
    · rw [if_neg h]
      exact ((insG_perm le x ys).cons y).trans (List.Perm.swap x y ys)
theorem isoG_perm (le : α → α → Bool) : ∀ xs : List α, (isoG le xs).Perm xs
  | [] => List.Perm.refl _
  | x :: xs => (insG_perm le x _).trans ((isoG_perm le xs).cons x)
theorem insG_sorted {le : α → α → Bool} (h : PySem.W.TotalLe le) (x : α) : ∀ {ys : List α}, ys.Pairwise (fun a b => le a b = true) → (insG le x ys).Pairwise (fun a b => le a b = true)
  | [], _ => List.pairwise_singleton _ _
  | y :: ys, hp => by
    unfold insG
    obtain ⟨h1, h2⟩ := List.pairwise_cons.mp hp
    by_cases hx : le x y = true
    · rw [if_pos hx]
      refine List.pairwise_cons.mpr ⟨fun z hz => ?_, hp⟩
      rcases List.mem_cons.mp hz with e | hz
      · rw [e]; exact hx
      · exact h.trans x y z hx (h1 z hz)
    · rw [if_neg hx]
      refine List.pairwise_cons.mpr ⟨fun z hz => ?_, insG_sorted h x h2⟩
      rcases List.mem_cons.mp ((insG_perm le x ys).mem_iff.mp hz) with e | hz
      · rw [e]; exact (h.total x y).resolve_left hx
      · exact h1 z hz
theorem insG_filter {le : α → α → Bool} (h : PySem.W.TotalLe le) (c x : α) : ∀ {ys : List α}, ys.Pairwise (fun a b => le a b = true) → (insG le x ys).filter (PySem.W.sameRank le c) = (x :: ys).filter (PySem.W.sameRank le c)
  | [], _ => rfl
  | y :: ys, hp => by
    unfold insG
    obtain ⟨h1, h2⟩ := List.pairwise_cons.mp hp
    by_cases hx : le x y = true
    · rw [if_pos hx]
    · rw [if_neg hx]
      have ih := insG_filter h c x h2
      by_cases hc : PySem.W.sameRank le c x = true
      · -- then y is not of the same rank
        have hy : PySem.W.sameRank le c y = false := by
          cases q : PySem.W.sameRank le c y with
          | false => rfl
          | true =>
            unfold PySem.W.sameRank at hc q
            rw [Bool.and_eq_true_iff] at hc q
            exact absurd (h.trans x c y hc.2 q.1) hx
        rw [List.filter_cons_of_neg (by rw [hy]; decide), ih, List.filter_cons_of_pos hc, List.filter_cons_of_pos hc, List.filter_cons_of_neg (by rw [hy]; decide)]
      · have hc' : ¬ PySem.W.sameRank le c x = true := hc
        rw [List.filter_cons_of_neg hc'] at ih ⊢
        by_cases hy : PySem.W.sameRank le c y = true
        · rw [List.filter_cons_of_pos hy, List.filter_cons_of_pos hy, ih]
        · rw [List.filter_cons_of_neg hy, List.filter_cons_of_neg hy, ih]
theorem isoG_sorted {le : α → α → Bool} (h : PySem.W.TotalLe le) : ∀ xs : List α, (isoG le xs).Pairwise (fun a b => le a b = true)
  | [] => List.Pairwise.nil
  | x :: xs => insG_sorted h x (isoG_sorted h xs)
theorem isoG_filter {le : α → α → Bool} (h : PySem.W.TotalLe le) (c : α) : ∀ xs : List α, (isoG le xs).filter (PySem.W.sameRank le c) = xs.filter (PySem.W.sameRank le c)
  | [] => rfl
  | x :: xs => by
    show (insG le x (isoG le xs)).filter _ = _
    rw [insG_filter h c x (isoG_sorted h xs)]
    by_cases hc : PySem.W.sameRank le c x = true
    · rw [List.filter_cons_of_pos hc, List.filter_cons_of_pos hc, isoG_filter h c xs]
    · rw [List.filter_cons_of_neg hc, List.filter_cons_of_neg hc, isoG_filter h c xs]
theorem isoG_eq {le : α → α → Bool} (h : PySem.W.TotalLe le) (xs : List α) : isoG le xs = xs.mergeSort le := PySem.W.sort_unique h (isoG_sorted h xs) fun c => isoG_filter h c xs
end
/-- over items with something at their side -/
theorem insG_map {α : Type} {le : α → α → Bool} {lf : D → D → Bool} (f : α → D) (x : α) : ∀ (ys : List α), (∀ y ∈ ys, le x y = lf (f x) (f y)) → (insG le x ys).map f = insq lf (f x) (ys.map f)
  | [], _ => rfl
  | y :: ys, h => by
    show (if le x y then x :: y :: ys else y :: insG le x ys).map f = if lf (f x) (f y) then f x :: f y :: ys.map f else f y :: insq lf (f x) (ys.map f)
    rw [h y List.mem_cons_self]
    by_cases q : lf (f x) (f y) = true
    · rw [if_pos q, if_pos q]; rfl
    · rw [if_neg q, if_neg q, List.map_cons, insG_map f x ys fun z hz => h z (List.mem_cons_of_mem _ hz)]
theorem isoG_map {α : Type} {le : α → α → Bool} {lf : D → D → Bool} (f : α → D) : ∀ (xs : List α), (∀ x ∈ xs, ∀ y ∈ xs, le x y = lf (f x) (f y)) → (isoG le xs).map f = isort lf (xs.map f)
  | [], _ => rfl
  | x :: xs, h => by
    show (insG le x (isoG le xs)).map f = insq lf (f x) (isort lf (xs.map f))
    rw [insG_map f x _ fun y hy => h x List.mem_cons_self y (List.mem_cons_of_mem _ ((isoG_perm le xs).mem_iff.mp hy)), isoG_map f xs fun a ha b hb => h a (List.mem_cons_of_mem _ ha) b (List.mem_cons_of_mem _ hb)]
/-! ### the rule -/
def rSortedD (K : PySem.W.Frag) : List V → Hp → VK → Prop := fun vs H Q => ∃ (a : Addr) (xs : List V) (ds : List D), vs = [V.ref a] ∧ SqL K H a xs ∧ ds.length = xs.length ∧ DpAll K H xs (D.pys ds) ∧ (∀ d ∈ ds, d.dep depth = true) ∧ PySem.W.AllAlike (D.pys ds) ∧ PySem.W.Sortable (D.pys ds) ∧
  ∀ (bs : List (V × D)) p, (bs.map (·.1)).Perm xs → bs.Perm (xs.zip ds) → bs = isoG (PySem.W.dataLe false fun b : V × D => b.2.py) (xs.zip ds) → H p = none → Q (.ref p) (upd H p (.lst (bs.map (·.1))))
theorem zip_each {X : Cx} {pins : List (Addr × Obj)} {σ : L2.St} {H : Hp} {s : Shared} (I : Inv X pins σ H s) : ∀ {xs : List V} {ds : List D} {us : List Value}, ds.length = xs.length → DpAll X.K H xs (D.pys ds) → Vals xs us →
    PySem.W.EachIs (fun u b => RelV b.1 u) us (xs.zip ds) ∧ PySem.W.EachIs (fun u (b : V × D) => ∃ as, Reads s.heap u b.2.py as) us (xs.zip ds)
  | [], [], us, _, _, r => by cases r; exact ⟨.nil, .nil⟩
  | [], d :: ds, us, e, _, _ => by cases e
  | x :: xs, [], us, e, _, _ => by cases e
  | x :: xs, d :: ds, us, e, h, r => by
    cases r with
    | cons ru rt =>
      have h : DpAll X.K H (x :: xs) (d.py :: D.pys ds) := by unfold D.pys at h; exact h
      cases h with
      | cons h1 h2 =>
        obtain ⟨i1, i2⟩ := zip_each I (Nat.succ.inj e) h2 rt
        exact ⟨.cons ru i1, .cons (Dp.reads I _ _ _ h1 ru) i2⟩
theorem zip_py : ∀ {xs : List V} {ds : List D}, ds.length = xs.length → (xs.zip ds).map (fun b => b.2.py) = D.pys ds
  | [], [], _ => by unfold D.pys; rfl
  | [], d :: ds, e => by cases e
  | x :: xs, [], e => by cases e
  | x :: xs, d :: ds, e => by
    unfold D.pys
    rw [List.zip_cons_cons, List.map_cons, zip_py (Nat.succ.inj e)]
theorem each_vals {us : List Value} {bs : List (V × D)} (h : PySem.W.EachIs (fun u (b : V × D) => RelV b.1 u) us bs) : Vals (bs.map (·.1)) us := by
  induction h with
  | nil => exact .nil
  | cons h1 _ ih => exact .cons h1 ih
theorem cr_sortedD {X : Cx} (hu : X.A.units + 65 < cLine) : CallR X (.builtin "sorted") (rSortedD X.K) := by
  intro pins s σ H vs us Q I r h
  obtain ⟨a, xs, ds, rfl, hs, hlen, hdp, hdd, hal, hsk, q⟩ := h
  obtain ⟨its, rv, hl, hz⟩ := I.list hs
  obtain ⟨u, rfl, ru⟩ := vals1 r
  obtain rfl : u = Value.ref a := ru
  obtain ⟨e1, e2⟩ := zip_each I hlen hdp rv
  have hzl : (xs.zip ds).length = xs.length := by rw [List.length_zip, hlen, Nat.min_self]
  refine PySem.W.sorted_data (R := fun u (b : V × D) => RelV b.1 u) (enc := fun b : V × D => b.2.py) hl.isList e1 e2 (by rw [zip_py hlen]; exact hal) (by rw [zip_py hlen]; exact hsk) (by rw [hzl]; exact hz) (fun b hb => ?_) fun out hout he => ?_
  · have hd := hdd b.2 (List.of_mem_zip hb).2
    have := (dep_ok hd).2
    have d40 : depth = 40 := rfl
    omega
  · have hm : isoG (PySem.W.dataLe false fun b : V × D => b.2.py) (xs.zip ds) = (xs.zip ds).mergeSort (PySem.W.dataLe false fun b : V × D => b.2.py) := isoG_eq (PySem.W.sortLe_total _ _ _) _
    rw [← hm] at he
    have hp := isoG_perm (PySem.W.dataLe false fun b : V × D => b.2.py) (xs.zip ds)
    have hx : (xs.zip ds).map (·.1) = xs := List.map_fst_zip (by omega)
    obtain ⟨n, hn⟩ := sortedAll_at s.heap its (List.toArray out)
    have hd : s.heap.objs.size ≤ s.heap.objs.size + 1 := Nat.le_succ _
    refine ⟨.ref (s.heap.objs.size + 1), upd H (s.heap.objs.size + 1) (.lst ((isoG (PySem.W.dataLe false fun b : V × D => b.2.py) (xs.zip ds)).map (·.1))), I.laid (t' := s.toks) (fun b o e => sortedAll_old e) hd ⟨?_, out, n, each_vals he, hn⟩, rfl, q _ _ ?_ hp rfl (I.hok.fresh hd)⟩
    · rw [List.length_map, hp.length_eq, hzl]; exact hz
    · have := hp.map (·.1)
      rw [hx] at this; exact this
end Mi
end
section
set_option Elab.async false
set_option linter.all false
set_option maxRecDepth 100000
set_option maxHeartbeats 1000000
/-! MiO: sorted as a combinator. -/
namespace Mi
open PySem PySem.Spec PyProof.Rows L2
theorem same_alk : ∀ {n : Nat} {x y z : D}, sameShape n x y = true → sameShape n x z = true → D.alk n y z = true := by
  intro n
  induction n with
  | zero => intro x y z h g; cases x <;> cases y <;> simp only [sameShape] at h <;> first | contradiction | (cases z <;> simp only [sameShape] at g <;> first | contradiction | rfl)
  | succ n ih =>
    have al : ∀ xs ys zs : List D, all2 (sameShape n) xs ys = true → all2 (sameShape n) xs zs = true → allq (D.alk n) ys zs = true := by
      intro xs
      induction xs with
      | nil => intro ys zs h g; cases ys with
        | nil => cases zs <;> rfl
        | cons y ys => cases h
      | cons x xs ihx =>
        intro ys zs h g
        cases ys with
        | nil => cases h
        | cons y ys =>
          cases zs with
          | nil => rfl
          | cons z zs =>
            have h : (sameShape n x y && all2 (sameShape n) xs ys) = true := h
            have g : (sameShape n x z && all2 (sameShape n) xs zs) = true := g
            rw [Bool.and_eq_true_iff] at h g
            show (D.alk n y z && allq (D.alk n) ys zs) = true
            rw [ih h.1 g.1, ihx ys zs h.2 g.2]; rfl
    intro x y z h g
    cases x <;> cases y <;> simp only [sameShape] at h <;> first
      | contradiction
      | (cases z <;> simp only [sameShape] at g <;> first | contradiction | rfl | (simp only [D.alk]; exact al _ _ _ h g))
theorem sortOk_alk {xs : List D} (h : sortOk xs = true) : (∀ d ∈ xs, d.dep depth = true) ∧ (∀ a ∈ xs, ∀ b ∈ xs, D.alk depth a b = true) ∧ PySem.W.Sortable (D.pys xs) := by
  unfold sortOk at h
  rw [Bool.and_eq_true_iff, Bool.and_eq_true_iff] at h
  obtain ⟨⟨h1, h2⟩, h3⟩ := h
  refine ⟨List.all_eq_true.mp h1, ?_, ?_⟩
  · cases xs with
    | nil => intro a ha; cases ha
    | cons x r =>
      rcases Bool.or_eq_true_iff.mp h3 with h3 | h3
      · obtain ⟨h3, h4⟩ := Bool.and_eq_true_iff.mp h3
        have hx : ∀ a ∈ x :: r, sameShape depth x a = true := by
          intro a ha
          rcases List.mem_cons.mp ha with e | ha
          · rw [e]; exact h4
          · exact List.all_eq_true.mp h3 a ha
        exact fun a ha b hb => same_alk (hx a ha) (hx b hb)
      · have h3 : (x :: r).all (fun a => (x :: r).all fun b => D.alk depth a b) = true := h3
        exact fun a ha b hb => List.all_eq_true.mp (List.all_eq_true.mp h3 a ha) b hb
  · rw [pys_map]
    rcases Bool.or_eq_true_iff.mp h2 with h2 | h2
    · refine .inl fun d hd => ?_
      obtain ⟨e, he, rfl⟩ := List.mem_map.mp hd
      have := List.all_eq_true.mp h2 e he
      unfold isTupN at this
      split at this
      · unfold D.py D.pys; exact ⟨_, _, rfl⟩
      · cases this
    · refine .inr fun d hd => ?_
      obtain ⟨e, he, rfl⟩ := List.mem_map.mp hd
      have := List.all_eq_true.mp h2 e he
      have hdp := List.all_eq_true.mp h1 e he
      cases e <;> simp only [notTup] at this <;> first | contradiction | (unfold D.dep at hdp; contradiction) | (unfold D.py; exact ⟨(by intro z; cases z), (by intro ys z; cases z)⟩)
section
variable {K : PySem.W.Frag} {m : List Addr} {H : Hp} {μ : Hq}
theorem DpAll_of (R : Rp K m H μ) : ∀ {ds : List D} {vs : List V}, (∀ d ∈ ds, d.dep depth = true) → DsR K m H ds vs → DpAll K H vs (D.pys ds)
  | [], vs, _, h => by rw [h.nil_iff]; unfold D.pys; exact .nil
  | d :: ds, vs, hd, h => by
    obtain ⟨v, t, rfl, h1, h2⟩ := h.cons_iff
    unfold D.pys
    exact .cons (Dp_of R (hd d List.mem_cons_self) h1) (DpAll_of R (fun e he => hd e (List.mem_cons_of_mem _ he)) h2)
theorem zip_DR : ∀ {ds : List D} {vs : List V}, DsR K m H ds vs → ∀ b ∈ vs.zip ds, DR K m H b.2 b.1
  | [], vs, _, b, hb => by rw [List.zip_nil_right] at hb; cases hb
  | d :: ds, vs, h, b, hb => by
    obtain ⟨v, t, rfl, h1, h2⟩ := h.cons_iff
    rcases List.mem_cons.mp hb with e | hb
    · rw [e]; exact h1
    · exact zip_DR h2 b hb
theorem DsR_of_zip : ∀ {bs : List (V × D)}, (∀ b ∈ bs, DR K m H b.2 b.1) → DsR K m H (bs.map (·.2)) (bs.map (·.1))
  | [], _ => .nil
  | b :: bs, h => .cons (h b List.mem_cons_self) (DsR_of_zip fun c hc => h c (List.mem_cons_of_mem _ hc))
end
theorem o_sorted {K : PySem.W.Frag} : Op1 K opSorted fun v H Q => rSortedD K [v] H Q := by
  intro C W m H μ x v Q R T P
  unfold opSorted at P
  split at P
  · rename_i xs hx
    split at P
    · rename_i hok
      obtain ⟨hz, P⟩ := cap_post P
      obtain ⟨a, vs, rfl, h1, h2⟩ := lq_TC R T hx
      obtain ⟨k1, k2, k3⟩ := sortOk_alk hok
      have hal : PySem.W.AllAlike (D.pys xs) := by
        rw [pys_map]
        intro d hd e he
        obtain ⟨d', hd', rfl⟩ := List.mem_map.mp hd
        obtain ⟨e', he', rfl⟩ := List.mem_map.mp he
        exact alk_ok (k2 d' hd' e' he')
      refine ⟨a, vs, xs, rfl, h1, h2.length, DpAll_of R k1 h2, k1, hal, k3, fun bs p e1 e2 e3 hn => ?_⟩
      have hs : bs.map (·.2) = isort (fun a b => !D.blt depth b a) xs := by
        rw [e3, isoG_map (lf := fun a b => !D.blt depth b a) (fun b : V × D => b.2) (vs.zip xs) fun x hx y hy => ?_, List.map_snd_zip (by rw [h2.length]; exact Nat.le_refl _)]
        have mx := (List.of_mem_zip hx).2
        have my := (List.of_mem_zip hy).2
        rw [PySem.W.dataLe_eq]
        dsimp only [cond]
        rw [blt_ok (k1 _ my) (k1 _ mx) (k2 _ my _ mx)]
      have hd : DsR K m H (bs.map (·.2)) (bs.map (·.1)) := DsR_of_zip fun b hb => zip_DR h2 b (e2.mem_iff.mp hb)
      rw [hs] at hd
      exact new_lst R hd P hn
    · exact P.elim
  · exact P.elim
end Mi
end
section
set_option Elab.async false
set_option linter.all false
set_option maxRecDepth 100000
set_option maxHeartbeats 1000000
/-! MiP: items of lists written, pop, extend. -/
namespace Mi
open PySem PySem.Spec PyProof.Rows L2
section
variable {X : Cx} {C : CT} {W : WX} {a b c e : Expr} {fa fb fe : EF} {pos : Pos} {m m1 : List Addr} {H H1 : Hp} {μ μ1 : Hq} {K : PySem.W.Frag}
/-! ### o[i] = v -/
theorem gv_ix {i : Expr} {fi : EF} (ho : PE X a (tE X.K C W fa)) (hi : PE X i (tE X.K C W fi))
    (ha : ∀ v, assign (.Subscript a i pos) X.env v = (do
      let ov ← holding [v] (eval a X.env)
      let iv ← holding [v, ov] (eval i X.env)
      standAt pos
      holding [v, ov, iv] (setItem ov iv v)
      release [v, ov, iv] []) := by intro _; rfl) : PG X (.Subscript a i pos) (tG X.K C W (gIx fa fi)) := by
  refine PG.imp (pg_sub ho hi set_list ha) fun v σ H Q h => ?_
  obtain ⟨m, ρ, μ, d, R0, E0, D0, P⟩ := h
  refine ⟨m, ρ, μ, R0, E0, (Post.bind relEB P).mono fun x H1 hh => ?_⟩
  obtain ⟨m1, μ1, t, E, R1, T1, P0, P1, ex⟩ := hh
  refine ⟨m1, ρ, μ1, R1, E0.ext E R0, (Post.bind relEB P1).mono fun y H2 hh => ?_⟩
  obtain ⟨m2, μ2, t2, F, R2', T2, P20, P2, exx⟩ := hh
  split at P2
  · rename_i r k
    split at P2
    · rename_i xs hx
      split at P2
      · rename_i j hj
        have T1' : TC X.K m2 H2 (.val (.ref r)) x := T1.1.ext F R1
        obtain ⟨p, vs, rfl, q1, q2, q3⟩ := ref_TC R2' T1' hx
        have D2 : DR X.K m2 H2 d v := (D0.ext E R0).ext F R1
        obtain ⟨G, R4⟩ := write_ok R2' q1 hx q2 (q3.set j D2)
        refine ⟨p, vs, k, j, rfl, int_TC T2.1, q2, by rw [← q3.length]; exact hj, P2 _ _ _ G R4 (((E0.ext E R0).ext F R1).ext G R2')⟩
      · exact P2.elim
    · exact P2.elim
  · exact P2.elim
/-! ### o[i] op= e -/
theorem pget_list : PGet X (rIxL X.K) := by
  intro pins s σ H x y v u Q I rx ry h
  obtain ⟨p, xs, i, z, rfl, rfl, hq, he, q⟩ := h
  cases rx
  obtain ⟨t, rfl⟩ := ry
  obtain ⟨its, r, pl, hz⟩ := I.list hq
  obtain ⟨j, h1, h2, h3, h4, h5⟩ := atI_get he
  obtain ⟨w, ew, rw'⟩ := r.get h2
  have hl := r.length
  have hn := line63
  have fin : EP X pins σ Q w s := ⟨z, H, I, rw', q⟩
  by_cases h0 : 0 ≤ i
  · have hj : i.toNat = j := by
      rw [seqIndex_of h0 h5] at h1
      exact Option.some.inj h1
    exact wpAny_getItem_list pl.isList h0 (by omega) (by rw [hj]; simpa using ew) fin
  · have hj : (i + (its.toArray.size : Int)).toNat = j := by
      rw [seqIndex_neg (by omega) h4] at h1
      rw [List.size_toArray, ← hl]
      exact Option.some.inj h1
    exact wpAny_getItem_list_neg pl.isList (by omega) (by rw [List.size_toArray] <;> omega) (by omega) (by rw [hj]; simpa using ew) fin
theorem sv_augIx {i : Expr} {fi : EF} {o : Operator} {op : O2} {ti : TIp} {tpos : Pos} (ho : PE X a (tE X.K C W fa)) (hi : PE X i (tE X.K C W fi)) (he : PE X e (tE X.K C W fe)) (hp : PIp X o ti) (hop : Op2 X.K op ti)
    (ha : ∀ ov iv new, augStore i ov iv new = (do holding [new, ov, iv] (setItem ov iv new); release [new, ov, iv] []; pure .next) := by intros; rfl) : PS X (.AugAssign (.Subscript a i tpos) o e pos) (tS X.K C W (sAugIx fa fi op fe)) := by
  refine PS.imp (ps_augS ho hi pget_list he hp set_list ha) fun D σ H h => ?_
  obtain ⟨m, ρ, μ, R0, E0, P⟩ := h
  refine ⟨m, ρ, μ, R0, E0, (Post.toS (rel := TR X.K) R0 E0 P).mono fun x H1 hh => ?_⟩
  obtain ⟨m1, μ1, t1, E, R1, T1, P0, P1⟩ := hh
  have E1 := E0.ext E R0
  refine ⟨m1, ρ, μ1, R1, E1, (Post.toS (rel := TR X.K) R1 E1 P1).mono fun y H2 hh => ?_⟩
  obtain ⟨m2, μ2, t2, F, R2', T2, P20, P2⟩ := hh
  have E2 := E1.ext F R1
  split at P2
  · rename_i r k
    split at P2
    · rename_i xs hx
      split at P2
      · rename_i d hd
        have T1' : TC X.K m2 H2 (.val (.ref r)) x := T1.1.ext F R1
        obtain ⟨p, vs, rfl, q1, q2, q3⟩ := ref_TC R2' T1' hx
        obtain ⟨w, hw1, hw2⟩ := at_TC q3 hd
        have ey := int_TC T2.1
        subst ey
        refine ⟨p, vs, k, w, rfl, rfl, .of q2, hw1, m2, ρ, μ2, R2', E2, (Post.toS (rel := TR X.K) R2' E2 P2).mono fun z H3 hh => ?_⟩
        obtain ⟨m3, μ3, t3, G, R3, T3, P30, P3⟩ := hh
        have E3 := E2.ext G R2'
        refine hop C (fun c d H => W c d σ H) m3 H3 μ3 (.val d) t3 w z _ R3 (hw2.ext G R2') T3.1 ?_
        refine (Post.toS (rel := TR X.K) R3 E3 P3).mono fun u H4 hh => ?_
        obtain ⟨m4, μ4, t4, J, R4, T4, P40, P4⟩ := hh
        obtain ⟨n4, J2, R5, D5⟩ := TC.mat J R4 T4
        have P5 := PostS.step J2 R5 P40
        split at P5
        · rename_i ys hy
          split at P5
          · rename_i j hj
            have T5 : TC X.K (m4 ++ n4) H4 (.val (.ref r)) (.ref p) := (T1'.ext G R2').ext J2 R3
            obtain ⟨p', vs', ep, g1, g2, g3⟩ := ref_TC R5 T5 hy
            cases ep
            obtain ⟨G2, R6⟩ := write_ok R5 g1 hy g2 (g3.set j D5)
            exact ⟨p, vs', k, j, rfl, rfl, g2, by rw [← g3.length]; exact hj, P5 _ _ _ G2 R6 ((E3.ext J2 R3).ext G2 R5)⟩
          · exact P5.elim
        · exact P5.elim
      · exact P2.elim
    · exact P2.elim
  · exact P2.elim
/-! ### pop, extend -/
theorem ev_pop {apos : Pos} (ho : PE X a (tE X.K C W fa)) (hbase : attributeBase a "pop" X.env (eval a X.env) = eval a X.env := by rfl) (hline : (apos.endLine == pos.line) = true := by rfl) :
    PE X (.Call (.Attribute a "pop" apos) [] [] pos) (tE X.K C W (ePop fa)) := by
  refine PE.imp (pe_bm0 PySem.F.plainAttrs_list PySem.F.slot_list_pop PySem.F.type_list_pop mt_pop ho hbase hline) fun σ H Q h => ?_
  obtain ⟨m, ρ, μ, R0, E0, P⟩ := h
  refine ⟨m, ρ, μ, R0, E0, (Post.bind relTR P).mono fun v H1 hh => ?_⟩
  obtain ⟨m1, μ1, t, E, R1, T1, P0, P1, ex⟩ := hh
  split at P1
  · rename_i r
    split at P1
    · rename_i xs hx
      split at P1
      · rename_i d hd
        obtain ⟨p, vs, rfl, q1, q2, q3⟩ := ref_TC R1 T1.1 hx
        obtain ⟨w, hw1, hw2⟩ := q3.get hd
        have hdl : DsR X.K m1 H1 xs.dropLast vs.dropLast := by
          rw [List.dropLast_eq_take, List.dropLast_eq_take, q3.length]
          exact q3.take _
        obtain ⟨G, R4⟩ := write_ok R1 q1 hx q2 hdl
        refine ⟨.inl ⟨rfl, vs, .of q2⟩, p, vs, w, rfl, rfl, q2, by rw [← q3.length]; exact hw1, P1 _ _ _ G R4 (TR.val (hw2.ext G R1))⟩
      · exact P1.elim
    · exact P1.elim
  · exact P1.elim
theorem DsR.erase : ∀ {ds : List D} {vs : List V} (n : Nat), DsR K m H ds vs → DsR K m H (ds.eraseIdx n) (vs.eraseIdx n)
  | [], _, n, h => by rw [h.nil_iff]; simp; exact .nil
  | d :: ds, _, 0, h => by
    obtain ⟨v, t, rfl, h1, h2⟩ := h.cons_iff
    exact h2
  | d :: ds, _, n + 1, h => by
    obtain ⟨v, t, rfl, h1, h2⟩ := h.cons_iff
    exact .cons h1 (DsR.erase n h2)
theorem ixq_seq {n j : Nat} {k : Int} (h : ixq n k = some j) : seqIndex? k n = some j := (ixN_seq h).1
theorem ev_popAt {apos : Pos} (ho : PE X a (tE X.K C W fa)) (he : PE X e (tE X.K C W fe)) (hbase : attributeBase a "pop" X.env (eval a X.env) = eval a X.env := by rfl)
    (hfew : ((backTo pos (starEach (e :: []) X.env)).all (fun x => !x.1) && (backToKw pos (keywordEach [] X.env)).all (fun x => x.1.isSome)
      && decide ((e :: ([] : List Expr)).length + ([] : List Keyword).length + (if ([] : List Keyword).isEmpty then 0 else 1) < 30)) = true := by rfl)
    (hline : (apos.endLine == pos.line) = true := by rfl) (hs : starEach (e :: []) X.env = (false, eval e X.env) :: starEach [] X.env := by rfl) (hplain : (backTo pos (starEach [] X.env)).any (·.1) = false := by rfl) :
    PE X (.Call (.Attribute a "pop" apos) [e] [] pos) (tE X.K C W (ePopAt fa fe)) := by
  refine PE.imp (pe_bm PySem.F.plainAttrs_list PySem.F.slot_list_pop PySem.F.type_list_pop mt_popAt ho (pa_cons he pa_nil hs) hbase hfew hline hs hplain) fun σ H Q h => ?_
  obtain ⟨m, ρ, μ, R0, E0, P⟩ := h
  refine ⟨m, ρ, μ, R0, E0, (Post.bind relTR P).mono fun v H1 hh => ?_⟩
  obtain ⟨m1, μ1, t, E, R1, T1, P0, P1, ex⟩ := hh
  split at P1
  · rename_i r
    split at P1
    · rename_i xs0 hx0
      obtain ⟨p0, vs0, rfl, h1, h2⟩ := lq_TC (μ := μ1) (t := .val (.ref r)) R1 T1.1 (by unfold lq; exact hx0)
      refine ⟨.inl ⟨rfl, vs0, h1⟩, m1, ρ, μ1, R1, E0.ext E R0, (Post.bind relTR P1).mono fun w H2 hh => ?_⟩
      obtain ⟨m2, μ2, y, F, R2', T2, P20, P2, exx⟩ := hh
      split at P2
      · rename_i k
        by_cases hk : -1000000 < k ∧ k < 1000000
        · rw [if_pos hk] at P2
          split at P2
          · rename_i xs hx
            split at P2
            · rename_i j hj
              split at P2
              · rename_i d hd
                have T1' : TC X.K m2 H2 (.val (.ref r)) (.ref p0) := T1.1.ext F R1
                obtain ⟨p, vs, ep, q1, q2, q3⟩ := ref_TC R2' T1' hx
                cases ep
                obtain ⟨w2, hw1, hw2⟩ := q3.get hd
                obtain ⟨G, R4⟩ := write_ok R2' q1 hx q2 (q3.erase j)
                have ew := int_TC T2.1
                subst ew
                exact ⟨p0, vs, k, j, w2, rfl, rfl, q2, by omega, by omega, by rw [← q3.length]; exact ixq_seq hj, hw1, P2 _ _ _ G R4 (TR.val (hw2.ext G R2'))⟩
              · exact P2.elim
            · exact P2.elim
          · exact P2.elim
        · rw [if_neg hk] at P2; exact P2.elim
      · exact P2.elim
    · exact P1.elim
  · exact P1.elim
theorem ev_ext {apos : Pos} (ho : PE X a (tE X.K C W fa)) (he : PE X e (tE X.K C W fe)) (hbase : attributeBase a "extend" X.env (eval a X.env) = eval a X.env := by rfl)
    (hfew : ((backTo pos (starEach (e :: []) X.env)).all (fun x => !x.1) && (backToKw pos (keywordEach [] X.env)).all (fun x => x.1.isSome)
      && decide ((e :: ([] : List Expr)).length + ([] : List Keyword).length + (if ([] : List Keyword).isEmpty then 0 else 1) < 30)) = true := by rfl)
    (hline : (apos.endLine == pos.line) = true := by rfl) (hs : starEach (e :: []) X.env = (false, eval e X.env) :: starEach [] X.env := by rfl) (hplain : (backTo pos (starEach [] X.env)).any (·.1) = false := by rfl) :
    PE X (.Call (.Attribute a "extend" apos) [e] [] pos) (tE X.K C W (eExt fa fe)) := by
  refine PE.imp (pe_bm PySem.F.plainAttrs_list PySem.F.slot_list_extend PySem.F.type_list_extend mt_extend ho (pa_cons he pa_nil hs) hbase hfew hline hs hplain) fun σ H Q h => ?_
  obtain ⟨m, ρ, μ, R0, E0, P⟩ := h
  refine ⟨m, ρ, μ, R0, E0, (Post.bind relTR P).mono fun v H1 hh => ?_⟩
  obtain ⟨m1, μ1, t, E, R1, T1, P0, P1, ex⟩ := hh
  split at P1
  · rename_i r
    split at P1
    · rename_i xs0 hx0
      obtain ⟨p0, vs0, rfl, h1, h2⟩ := lq_TC (μ := μ1) (t := .val (.ref r)) R1 T1.1 (by unfold lq; exact hx0)
      refine ⟨.inl ⟨rfl, vs0, h1⟩, m1, ρ, μ1, R1, E0.ext E R0, (Post.bind relTR P1).mono fun w H2 hh => ?_⟩
      obtain ⟨m2, μ2, y, F, R2', T2, P20, P2, exx⟩ := hh
      split at P2
      · rename_i ys hy
        split at P2
        · rename_i xs hx
          obtain ⟨hz, P2⟩ := cap_post P2
          obtain ⟨b, ws, rfl, g1, g2⟩ := mq_TC R2' T2.1 hy
          have T1' : TC X.K m2 H2 (.val (.ref r)) (.ref p0) := T1.1.ext F R1
          obtain ⟨p, vs, ep, q1, q2, q3⟩ := ref_TC R2' T1' hx
          cases ep
          obtain ⟨G, R4⟩ := write_ok R2' q1 hx q2 (q3.append g2)
          exact ⟨p0, b, vs, ws, rfl, rfl, q2, g1, by rw [← q3.length, ← g2.length]; exact big_line hz, P2 _ _ _ G R4 non_TR⟩
        · exact P2.elim
      · exact P2.elim
    · exact P1.elim
  · exact P1.elim
end
end Mi
end
section
set_option Elab.async false
set_option linter.all false
set_option maxRecDepth 100000
set_option maxHeartbeats 1000000
/-! MiU: is, subscripts of texts, walks of texts, of steps, of enumerate; max and min of two; chains. -/
namespace Mi
open PySem PySem.Spec PyProof.Rows L2
section
variable {K : PySem.W.Frag}
def rIsA : R2 := fun x y H Q => rIsN x y H Q ∨ ∃ a b : Bool, x = .bl a ∧ y = .bl b ∧ Q (.bl (decide (a = b))) H
def rIsNotA : R2 := fun x y H Q => rNotN x y H Q ∨ ∃ a b : Bool, x = .bl a ∧ y = .bl b ∧ Q (.bl (!decide (a = b))) H
theorem op_isA {X : Cx} : OpR X (compareOp .Is) rIsA := op_isN1.or op_is_bl
theorem op_isNotA {X : Cx} : OpR X (compareOp .IsNot) rIsNotA := op_notN1.or op_isnot_bl
theorem TC_notNon {m : List Addr} {H : Hp} {t : Tv} {v : V} (h : TC K m H t v) (hn : t ≠ .val .non) : v ≠ .non := by
  intro e
  subst e
  cases t with
  | val d =>
    have h : DR K m H d .non := h
    cases d <;> unfold DR at h <;> first
      | exact hn rfl
      | (cases h; done)
      | (obtain ⟨_, _, z, _⟩ := h; cases z; done)
      | (obtain ⟨_, z, _⟩ := h; cases z; done)
  | new o => cases o <;> first
      | (obtain ⟨_, _, z, _⟩ := h; cases z; done)
      | exact (h : False).elim
theorem o_is : Op2 K opIs rIsA := by
  intro C W m H μ x y v1 v2 Q R T1 T2 P
  unfold opIs at P
  split at P <;> first
    | exact P.elim
    | exact .inr ⟨_, _, bl_TC T1, bl_TC T2, Post.ok R P bl_TR⟩
    | exact .inl ⟨non_TC T2, by rw [non_TC T1, decide_eq_true rfl]; exact Post.ok R P bl_TR⟩
    | exact .inl ⟨non_TC T2, by rw [decide_eq_false (TC_notNon T1 (by intro z; cases z))]; exact Post.ok R P bl_TR⟩
theorem o_isNot : Op2 K opIsNot rIsNotA := by
  intro C W m H μ x y v1 v2 Q R T1 T2 P
  unfold opIsNot at P
  split at P <;> first
    | exact P.elim
    | exact .inr ⟨_, _, bl_TC T1, bl_TC T2, Post.ok R P bl_TR⟩
    | exact .inl ⟨non_TC T2, by rw [non_TC T1, decide_eq_true rfl]; exact Post.ok R P bl_TR⟩
    | exact .inl ⟨non_TC T2, by rw [decide_eq_false (TC_notNon T1 (by intro z; cases z))]; exact Post.ok R P bl_TR⟩
theorem bl_is : BlOp opIs := by
  intro x y μ t μ' h
  unfold opIs at h
  split at h <;> first | (cases h; exact ⟨_, rfl⟩) | (cases h; done)
theorem bl_isNot : BlOp opIsNot := by
  intro x y μ t μ' h
  unfold opIsNot at h
  split at h <;> first | (cases h; exact ⟨_, rfl⟩) | (cases h; done)
theorem o_ixA : Op2 K opIxA (rIx K) := by
  intro C W m H μ x y v1 v2 Q R T1 T2 P
  unfold opIxA at P
  split at P
  · rename_i s i
    split at P
    · rename_i j hj
      split at P
      · rename_i c hc
        obtain ⟨hz, P⟩ := cap_post P
        refine .inr (.inr ⟨s, i, c, str_TC T1, int_TC T2, big_line hz, ?_, Post.ok R P str_TR⟩)
        unfold atI
        rw [← ixq_eq, hj]
        exact hc
      · exact P.elim
    · exact P.elim
  · exact o_ix C W m H μ x y v1 v2 Q R T1 T2 P
theorem ev_ixA {X : Cx} {C : CT} {W : WX} {a b : Expr} {fa fb : EF} {pos : Pos} (ha : PE X a (tE X.K C W fa)) (hb : PE X b (tE X.K C W fb)) (hs : PlainIx b) : PE X (.Subscript a b pos) (tE X.K C W (e2 opIxA fa fb)) := PE.imp (pe_ix ix_seq ha hb hs) fun _ _ _ h => e2_to o_ixA h
theorem o_max2 : ∀ (C : CT) (W : WXe) (m : List Addr) (H : Hp) (μ : Hq) (x y : Tv) (v1 v2 : V) (Q : VK), Rp K m H μ → TC K m H x v1 → TC K m H y v2 → Post (TR K) K C W m H μ (opMax2 x y μ) Q → ∃ i j, [v1, v2] = [V.int i, V.int j] ∧ Q (.int (if j > i then j else i)) H := by
  intro C W m H μ x y v1 v2 Q R T1 T2 P
  unfold opMax2 at P
  split at P
  · exact ⟨_, _, by rw [int_TC T1, int_TC T2], Post.ok R P int_TR⟩
  · exact P.elim
theorem o_min2 : ∀ (C : CT) (W : WXe) (m : List Addr) (H : Hp) (μ : Hq) (x y : Tv) (v1 v2 : V) (Q : VK), Rp K m H μ → TC K m H x v1 → TC K m H y v2 → Post (TR K) K C W m H μ (opMin2 x y μ) Q → ∃ i j, [v1, v2] = [V.int i, V.int j] ∧ Q (.int (if j < i then j else i)) H := by
  intro C W m H μ x y v1 v2 Q R T1 T2 P
  unfold opMin2 at P
  split at P
  · exact ⟨_, _, by rw [int_TC T1, int_TC T2], Post.ok R P int_TR⟩
  · exact P.elim
end
section
variable {X : Cx} {C : CT} {W : WX} {a b c e tg : Expr} {fa fb fc' fe : EF} {pos : Pos} {m m1 m' : List Addr} {H H1 H' : Hp} {μ μ1 μ' : Hq} {K : PySem.W.Frag}
/-- a builtin of two values -/
theorem ev_b2 {id : String} {x : Str} {p : Pos} {r : List V → Hp → VK → Prop} {op : O2} (hc : CallR X (.builtin id) r)
    (ho : ∀ (C : CT) (W : WXe) (m : List Addr) (H : Hp) (μ : Hq) (x y : Tv) (v1 v2 : V) (Q : VK), Rp X.K m H μ → TC X.K m H x v1 → TC X.K m H y v2 → Post (TR X.K) X.K C W m H μ (op x y μ) Q → r [v1, v2] H Q)
    (hg : Gl X x) (hm : X.mg x = none) (hv : bootBuiltins x = some (.builtin id)) (ha : PE X a (tE X.K C W fa)) (hb : PE X b (tE X.K C W fb)) (hn : x ≠ "__name__" := by decide) (hdb : (x == ("__debug__" : Str)) = false := by decide)
    (hs : starEach [a, b] X.env = (false, eval a X.env) :: starEach [b] X.env := by rfl) (hs2 : starEach [b] X.env = (false, eval b X.env) :: starEach [] X.env := by rfl) (hpl : (backTo pos (starEach [b] X.env)).any (·.1) = false := by rfl) :
    PE X (.Call (.Name x p) [a, b] [] pos) (tE X.K C W (e2 op fa fb)) := by
  refine PE.imp (pe_callB hc hg hm hv (pa_cons ha (pa_cons hb pa_nil hs2) hs) hn hdb hs hpl) fun σ H Q h => ?_
  exact e2_to (op := op) (r := fun x y H Q => r [x, y] H Q) (fun C W m H μ x y v1 v2 Q R T1 T2 P => ho C W m H μ x y v1 v2 Q R T1 T2 P) h
/-! ### a op b op c -/
theorem ev_chain {op op' : CmpOp} {o1 o2 : O2} {r r' : R2} (hr : OpR X (compareOp op) r) (h1 : Op2 X.K o1 r) (b1 : BlOp o1) (hr' : OpR X (compareOp op') r') (h2 : Op2 X.K o2 r') (ha : PE X a (tE X.K C W fa)) (hb : PE X b (tE X.K C W fb)) (hc : PE X c (tE X.K C W fc'))
    (hm : lastMarks [op, op'] [b, c] = false := by with_unfolding_all rfl) : PE X (.Compare a [op, op'] [b, c] pos) (tE X.K C W (eChn fa (chMore o1 fb (chLast o2 fc')))) := by
  refine PE.imp (pe_chain hr hr' ha hb hc hm) fun σ H Q h => ?_
  obtain ⟨m, ρ, μ, R0, E0, P⟩ := h
  refine ⟨m, ρ, μ, R0, E0, (Post.bind relTR P).mono fun v H1 hh => ?_⟩
  obtain ⟨m1, μ1, t, E, R1, T1, P0, P1, ex⟩ := hh
  have E1 := E0.ext E R0
  refine ⟨m1, ρ, μ1, R1, E1, (Post.bind relTR P1).mono fun w H2 hh => ?_⟩
  obtain ⟨m2, μ2, t2, F, R2', T2, P20, P2, ex2⟩ := hh
  have E2 := E1.ext F R1
  refine h1 C (fun c d H => W c d σ H) m2 H2 μ2 t t2 v w _ R2' (T1.1.ext F R1) T2.1 ?_
  refine (Post.bind relTR P2).mono fun z H3 hh => ?_
  obtain ⟨m3, μ3, t3, G, R3, T3, P30, P3, ex3⟩ := hh
  obtain ⟨k, hk⟩ := b1 _ _ _ _ _ ex3
  subst hk
  refine ⟨k, bl_TC T3.1, ?_⟩
  cases k with
  | false => exact iteF (Post.ok R3 P3 bl_TR)
  | true =>
    refine iteT ⟨m3, ρ, μ3, R3, E2.ext G R2', (Post.bind relTR P3).mono fun w' H4 hh => ?_⟩
    obtain ⟨m4, μ4, t4, J, R4, T4, P40, P4, ex4⟩ := hh
    exact h2 C (fun c d H => W c d σ H) m4 H4 μ4 t2 t4 w w' Q R4 ((T2.1.ext G R2').ext J R3) T4.1 P4
theorem tv_chain {op op' : CmpOp} {o1 o2 : O2} {r r' : R2} (hr : OpR X (compareOp op) r) (h1 : Op2 X.K o1 r) (b1 : BlOp o1) (hr' : OpR X (compareOp op') r') (h2 : Op2 X.K o2 r') (b2 : BlOp o2) (ha : PE X a (tE X.K C W fa)) (hb : PE X b (tE X.K C W fb)) (hc : PE X c (tE X.K C W fc'))
    (hm : lastMarks [op, op'] [b, c] = false := by with_unfolding_all rfl) : PT X (.Compare a [op, op'] [b, c] pos) (tT X.K C W (tV (eChn fa (chMore o1 fb (chLast o2 fc'))))) := by
  refine PT.imp (pt_chain hr hr' ha hb hc hm) fun σ H Q h => ?_
  obtain ⟨m, ρ, μ, R0, E0, P⟩ := h
  have P : Post relB X.K C (fun c d H => W c d σ H) m H μ ((fa ρ μ).bind fun x μ1 => (chMore o1 fb (chLast o2 fc') x ρ μ1).bind fun t μ1 => match tru μ1 t with | some b => R.ok b μ1 | none => .fail) Q := by
    have e : tV (eChn fa (chMore o1 fb (chLast o2 fc'))) ρ μ = ((fa ρ μ).bind fun x μ1 => (chMore o1 fb (chLast o2 fc') x ρ μ1).bind fun t μ1 => match tru μ1 t with | some b => R.ok b μ1 | none => .fail) := by
      unfold tV eChn
      cases fa ρ μ <;> rfl
    rw [← e]; exact P
  refine ⟨m, ρ, μ, R0, E0, (Post.bind relBB P).mono fun v H1 hh => ?_⟩
  obtain ⟨m1, μ1, t, E, R1, T1, P0, P1, ex⟩ := hh
  have E1 := E0.ext E R0
  have P1 : Post relB X.K C (fun c d H => W c d σ H) m1 H1 μ1 ((fb ρ μ1).bind fun z μ2 => (o1 t z μ2).bind fun w μ3 => (match w with
      | .val (.bl true) => chLast o2 fc' z ρ μ3
      | .val (.bl false) => .ok (vb false) μ3
      | _ => .fail).bind fun t μ1 => match tru μ1 t with | some b => R.ok b μ1 | none => .fail) Q := by
    have e : ((chMore o1 fb (chLast o2 fc') t ρ μ1).bind fun t μ1 => match tru μ1 t with | some b => R.ok b μ1 | none => .fail) = ((fb ρ μ1).bind fun z μ2 => (o1 t z μ2).bind fun w μ3 => (match w with
      | .val (.bl true) => chLast o2 fc' z ρ μ3
      | .val (.bl false) => .ok (vb false) μ3
      | _ => .fail).bind fun t μ1 => match tru μ1 t with | some b => R.ok b μ1 | none => .fail) := by
      unfold chMore
      cases fb ρ μ1 with
      | ok z μ2 => dsimp only [R.bind]; cases o1 t z μ2 <;> rfl
      | exc _ _ _ => rfl
      | fail => rfl
    rw [← e]; exact P1
  refine ⟨m1, ρ, μ1, R1, E1, (Post.bind relBB P1).mono fun w H2 hh => ?_⟩
  obtain ⟨m2, μ2, t2, F, R2', T2, P20, P2, ex2⟩ := hh
  have E2 := E1.ext F R1
  refine h1 C (fun c d H => W c d σ H) m2 H2 μ2 t t2 v w _ R2' (T1.1.ext F R1) T2.1 ?_
  refine (Post.bind relBB P2).mono fun z H3 hh => ?_
  obtain ⟨m3, μ3, t3, G, R3, T3, P30, P3, ex3⟩ := hh
  obtain ⟨k, hk⟩ := b1 _ _ _ _ _ ex3
  subst hk
  refine ⟨k, bl_TC T3.1, ?_⟩
  cases k with
  | false => exact iteF ⟨false, rfl, P3 m3 H3 false .refl R3 rfl⟩
  | true =>
    have P3 : Post relB X.K C (fun c d H => W c d σ H) m3 H3 μ3 ((fc' ρ μ3).bind fun y μ4 => (o2 t2 y μ4).bind fun t μ1 => match tru μ1 t with | some b => R.ok b μ1 | none => .fail) Q := by
      have e : ((chLast o2 fc' t2 ρ μ3).bind fun t μ1 => match tru μ1 t with | some b => R.ok b μ1 | none => .fail) = ((fc' ρ μ3).bind fun y μ4 => (o2 t2 y μ4).bind fun t μ1 => match tru μ1 t with | some b => R.ok b μ1 | none => .fail) := by
        unfold chLast
        cases fc' ρ μ3 <;> rfl
      rw [← e]; exact P3
    refine iteT ⟨m3, ρ, μ3, R3, E2.ext G R2', (Post.bind relBB P3).mono fun w' H4 hh => ?_⟩
    obtain ⟨m4, μ4, t4, J, R4, T4, P40, P4, ex4⟩ := hh
    refine h2 C (fun c d H => W c d σ H) m4 H4 μ4 t2 t4 w w' _ R4 ((T2.1.ext G R2').ext J R3) T4.1 ?_
    refine (Post.bind relBB P4).mono fun z' H5 hh => ?_
    obtain ⟨m5, μ5, t5, L, R5, T5, P50, P5, ex5⟩ := hh
    obtain ⟨k5, hk5⟩ := b2 _ _ _ _ _ ex5
    subst hk5
    exact ⟨k5, bl_TC T5.1, P5 m5 H5 k5 .refl R5 rfl⟩
end
end Mi
end
section
set_option Elab.async false
set_option linter.all false
set_option maxRecDepth 100000
set_option maxHeartbeats 1000000
/-! MiV: walks of texts, of steps down, of enumerate. -/
namespace PySem
open Sem (wp)
open AutoSeq1 (wpAny_loadPart')
theorem mi_enumerate_newT (l : Addr) (items : Array Value) (n : Nat) (dct : Option Addr) (sl : Array (Option Value)) :
    Meets (Builtin.«enumerate.__new__» ⟨[.type "enumerate", .ref l], []⟩) (fun _ R s => s.heap.get? l = some { cls := .type "tuple", dict := dct, data := .seq items n, slots := sl } ∧
      R (.ok (.ret (.ref (s.heap.push { cls := .type "tuple_iterator", data := .fields #[.ref l, .int 0 0] }).objs.size)))
        { s with heap := (s.heap.push { cls := .type "tuple_iterator", data := .fields #[.ref l, .int 0 0] }).push { cls := .type "enumerate", data := .fields #[.none, .bool false, .ref s.heap.objs.size, rawInt 0, .none, .none] } }) :=
  .of_wp fun prog w A R s h => by
    obtain ⟨hp, g, d, tk, os⟩ := s; obtain ⟨hl, h⟩ := h
    have hsub := sub_enumerate
    have hL : Heap.IsTuple (Shared.heap ⟨hp, g, d, tk, os⟩) l items := ⟨_, hl, rfl, n, rfl⟩
    wp_walk using wpAny_loadPart' hl
    refine wpAny_stack_any fun st => wpAny_pure ?_
    split
    · rename_i c _ _ _ _ _
      cases (c == Value.type "enumerate")
      · wp_walk using wpAny_loadPart' hl, wpAny_pyIter_tuple hL
        exact ⟨_, rfl, h⟩
      · wp_walk using wpAny_loadPart' hl, wpAny_pyIter_tuple hL
        exact ⟨_, rfl, h⟩
    · wp_walk using wpAny_loadPart' hl, wpAny_pyIter_tuple hL
      exact ⟨_, rfl, h⟩
section
variable {prog : Program} {w : World} {A : Around} {E : Value → Shared → Prop} {s : Shared}
theorem mi_enumerate_tuple {l : Addr} {items : Array Value} {Q : Value → Shared → Prop} (hL : s.heap.IsTuple l items)
    (h : ∀ h', IsEnum h' (s.heap.objs.size + 1) s.heap.objs.size 0 .none → h'.IsTupleIter s.heap.objs.size l 0 → h'.objs.size = s.heap.objs.size + 2 →
      (∀ b o, s.heap.get? b = some o → h'.get? b = some o) → Q (.ref (s.heap.objs.size + 1)) { s with heap := h' }) :
    wpAny (model prog w) A (call (.type "enumerate") [.ref l]) Q E s := by
  obtain ⟨⟨c, dct, dt, sl⟩, hl, hc, n, hd⟩ := hL
  replace hc : c = .type "tuple" := hc
  replace hd : dt = .seq items n := hd
  subst hc hd
  refine callType_new F.called_enumerate (by decide) (F.typeCall_enumerate_1 _) (F.newCall_enumerate_1 _) (fun obj => F.args_object_init_2 obj _) F.entry_enumerate_new
    (mi_enumerate_newT l items n dct sl) ⟨hl, ?_⟩
  have hz : (s.heap.push { cls := .type "tuple_iterator", data := .fields #[.ref l, .int 0 0] }).objs.size = s.heap.objs.size + 1 := Heap.size_push ..
  show _ ∧ _
  rw [hz]
  have he : IsEnum ((s.heap.push { cls := .type "tuple_iterator", data := .fields #[.ref l, .int 0 0] }).push
      { cls := .type "enumerate", data := .fields #[.none, .bool false, .ref s.heap.objs.size, rawInt 0, .none, .none] }) (s.heap.objs.size + 1) s.heap.objs.size 0 .none := by
    have := Heap.get?_push_size (s.heap.push { cls := .type "tuple_iterator", data := .fields #[.ref l, .int 0 0] })
      (o := { cls := .type "enumerate", data := .fields #[.none, .bool false, .ref s.heap.objs.size, rawInt 0, .none, .none] }) rfl
    rw [hz] at this; exact this
  refine ⟨⟨_, he, rfl⟩, h _ he ⟨_, Heap.get?_push_of_some _ (Heap.get?_push_size _ rfl), rfl, rfl⟩ (by rw [Heap.size_push, hz]) fun b o x => Heap.get?_push_of_some _ (Heap.get?_push_of_some _ x)⟩
end
end PySem
namespace Mi
open PySem PySem.Spec PyProof.Rows L2
/-! ### enumerate of a tuple -/
def IteT (K : PySem.W.Frag) (a : Addr) : It :=
  ⟨fun i H => ∃ (xs : List V) (x : V), SqT K H a xs ∧ xs[i]? = some x, fun i H v H' => ∃ T x, v = .ref T ∧ H T = none ∧ H' = upd H T (.tup [.int (i : Nat), x]) ∧ ∀ xs, SqT K H a xs → xs[i]? = some x, fun i H => ∃ xs : List V, SqT K H a xs ∧ xs.length = i⟩
theorem turn_enumT {P : Program} {w : World} {K : PySem.W.Frag} {elts : List Expr} {kk : Nat} {tpos : Pos} (a e it : Addr) (hait : a ≠ it) (hae : a ≠ e) :
    Turn P w K (.Tuple elts kk tpos) (IteT K a) [e, it] e (fun i h => (∃ old, IsEnum h e it ((i : Nat) : Int) old) ∧ h.IsTupleIter it a i ∧ e ≠ it) where
  mem := by simp
  obj := fun i h st b hb => by
    obtain ⟨⟨old, he⟩, ⟨o, ho, hc, hd⟩, _⟩ := st
    have e' : b = e ∨ b = it := by simpa using hb
    rcases e' with z | z
    · rw [z]; exact ⟨_, he, fun v q => nomatch q⟩
    · rw [z]; exact ⟨o, ho, fun v q => by rw [hd] at q; cases q⟩
  keep := fun i h h' st k => let ⟨⟨old, he⟩, hi, hne⟩ := st; ⟨⟨old, k e (by simp) _ he⟩, hi.at fun o q => k it (by simp) o q, hne⟩
  item := by
    intro X hP hw hK hc i pins s σ H E I hf st hg
    subst hP hw hK
    obtain ⟨⟨old, he⟩, hit, hne⟩ := st
    obtain ⟨xs, x, hq, hx⟩ := hg
    obtain ⟨its, rv, p, hz⟩ := I.tuple hq
    obtain ⟨u, hu, ru⟩ := rv.get hx
    have hel : e < s.heap.objs.size := Heap.lt_size he
    have hil : it < s.heap.objs.size := by obtain ⟨_, q, _⟩ := hit; exact Heap.lt_size q
    have hlt : i < its.toArray.size := by
      obtain ⟨hh, _⟩ := List.getElem?_eq_some_iff.mp hu
      simpa using hh
    refine wpAny_pyNext_enum_itemD (Draws.tuple (A := X.A.in1) (I.ok.hd hc) it a hait its.toArray) he ⟨hit, p⟩ hlt hne (by simp [hne, Ne.symm hae]) fun x' h' tk hP ho hst hT hsz hk => ?_
    have ex : x' = u := by
      have hP : its.toArray[i]? = some x' := hP
      rw [show its.toArray[i]? = some u by simpa using hu] at hP
      exact (Option.some.inj hP).symm
    subst ex
    refine ⟨_, rfl, wpAny_letOwnedTupleGo_enum (s := { s with heap := h', toks := tk + 1 }) ho fun h'' he' sb => ?_⟩
    have hT2 : h''.get? s.heap.objs.size = some { cls := .type "tuple", data := .seq #[.int i tk, x'] } := (sb.2 _ (Nat.ne_of_gt hel)).trans hT
    have new : ObjOk X.prog X.w (upd H s.heap.objs.size (.tup [.int (i : Nat), x])) h'' s.heap.objs.size (.tup [.int (i : Nat), x]) :=
      ⟨by show 2 ≤ sizeLine; decide, [.int i tk, x'], .cons ⟨_, rfl⟩ (.cons ru .nil), ⟨_, hT2, rfl, _, rfl⟩⟩
    have I1 : Inv X pins σ (upd H s.heap.objs.size (.tup [.int (i : Nat), x])) { s with heap := h'', toks := tk + 1 } :=
      I.turnedNew (ch := [e, it]) (fun b ob hb q => (sb.2 b (fun z => hb (by simp [z]))).trans (hk b ob (fun z => hb (by simp [z])) (fun z => hb (by simp [z])) q)) hf (Nat.le_refl _) new
    refine ⟨.ref s.heap.objs.size, _, I1, rfl, ⟨_, x, rfl, I.hok.fresh (Nat.le_refl _), rfl, fun ys hy => by rw [I.tuple_inj hy hq]; exact hx⟩, ⟨⟨x', ?_⟩, hst.1.at fun o q => (sb.2 it (Ne.symm hne)).trans q, hne⟩, fun b hb => ?_⟩
    · have e1 : ((i + 1 : Nat) : Int) = (i : Int) + 1 := by omega
      rw [e1]; exact he'
    · have hb' : b < s.heap.objs.size := by
        have e' : b = e ∨ b = it := by simpa using hb
        rcases e' with z | z
        · rw [z]; exact hel
        · rw [z]; exact hil
      rw [upd_ne (Nat.ne_of_lt hb')]
      exact (hf b hb).1
  done := by
    intro X hP hw hK hc i pins s σ H E I hf st hg
    subst hP hw hK
    obtain ⟨⟨old, he⟩, hit, hne⟩ := st
    obtain ⟨xs, hq, hx⟩ := hg
    obtain ⟨its, rv, p, hz⟩ := I.tuple hq
    obtain ⟨f0, f1, f2, f3, f4, f5⟩ := hf it (by simp)
    have hl := rv.length
    have hi : i = its.toArray.size := by simp; omega
    refine wpAny_pyNext_enum_endD (Draws.tuple (A := X.A.in1) (I.ok.hd hc) it a hait its.toArray) he ⟨by rw [← hi]; exact hit, p⟩ fun h' eb => ⟨rfl, I.turned (t' := s.toks) (fun b o hb q => eb b o hb q) f0 f1 f3 f4 f5⟩
  self := fun A i s Q E st h => let ⟨⟨_, he⟩, _⟩ := st; wpAny_pyIter_enum he h
theorem walk_enumT {K : PySem.W.Frag} {a : Addr} {xs : List V} : Walk (IteT K a) xs.length (fun H => SqT K H a xs) (YPair (fun i => some (.int (i : Nat))) (fun i => xs[i]?)) :=
  ⟨fun i H hi h => ⟨xs, xs[i], h, List.getElem?_eq_getElem hi⟩, fun H h => ⟨xs, h, rfl⟩, fun i H x H' hi h y => by
    obtain ⟨T, v, e1, e2, e3, e4⟩ := y
    exact ⟨T, .int (i : Nat), v, e1, e2, e3, rfl, e4 xs h⟩⟩
def iEnumA (K : PySem.W.Frag) (te : TE) : TI := fun σ H R => te σ H fun x H1 => ∃ p, x = .ref p ∧ ((∃ xs, SqL K H1 p xs) ∧ R (Ite K p) H1 ∨ (∃ xs, SqT K H1 p xs) ∧ R (IteT K p) H1)
theorem pi_enumA {X : Cx} {e : Expr} {te : TE} {p pos tpos : Pos} {elts : List Expr} {kk : Nat} (hg : Gl X "enumerate") (hm : X.mg "enumerate" = none) (he : PE X e te) (hs : starEach [e] X.env = (false, eval e X.env) :: starEach [] X.env := by rfl) :
    PI X (.Tuple elts kk tpos) (.Call (.Name "enumerate" p) [e] [] pos) (iEnumA X.K te) := by
  refine ⟨fun pins s σ H R I h => ?_⟩
  refine Call_ (ld_blt I hg hm PyProof.Rows.boot_enumerate (PyProof.Rows.callWith_type1 (args_cons (thn (he.run pins s σ H _ I h) fun u s1 ⟨v, H1, I1, r1, q1⟩ => args_nil ?_) hs) hs rfl))
  obtain ⟨a, rfl, q1⟩ := q1
  obtain rfl : u = Value.ref a := r1
  rcases q1 with ⟨⟨xs, hq⟩, q⟩ | ⟨⟨xs, hq⟩, q⟩
  · obtain ⟨its, rv, p', hz⟩ := I1.list hq
    refine call_enumerate_list p'.isList fun h' he hit hsz hk => wpAny_pyIter_enum he ?_
    have I2 : Inv X pins σ H1 { s1 with heap := h' } := I1.kept (t' := s1.toks) hk
    refine ⟨s1.heap.objs.size + 1, [s1.heap.objs.size + 1, s1.heap.objs.size], _, _, H1, rfl, I2, turn_enum a (s1.heap.objs.size + 1) s1.heap.objs.size, ⟨⟨.none, he⟩, hit, Nat.succ_ne_self _⟩, fun b hb => ?_, q⟩
    have e' : b = s1.heap.objs.size + 1 ∨ b = s1.heap.objs.size := by simpa using hb
    have hle : s1.heap.objs.size ≤ b := by
      rcases e' with z | z
      · rw [z]; exact Nat.le_add_right _ _
      · rw [z]; exact Nat.le_refl _
    exact I1.fpOk hle (I1.hok.fresh hle)
  · obtain ⟨its, rv, p', hz⟩ := I1.tuple hq
    have hal : a < s1.heap.objs.size := by
      obtain ⟨o, ho, _⟩ := id p'
      exact Heap.lt_size ho
    refine mi_enumerate_tuple (show s1.heap.IsTuple a its.toArray from p') fun h' he hit hsz hk => wpAny_pyIter_enum he ?_
    have I2 : Inv X pins σ H1 { s1 with heap := h' } := I1.kept (t' := s1.toks) hk
    refine ⟨s1.heap.objs.size + 1, [s1.heap.objs.size + 1, s1.heap.objs.size], _, _, H1, rfl, I2, turn_enumT a (s1.heap.objs.size + 1) s1.heap.objs.size (Nat.ne_of_lt hal) (Nat.ne_of_lt (Nat.lt_succ_of_lt hal)), ⟨⟨.none, he⟩, hit, Nat.succ_ne_self _⟩, fun b hb => ?_, q⟩
    have e' : b = s1.heap.objs.size + 1 ∨ b = s1.heap.objs.size := by simpa using hb
    have hle : s1.heap.objs.size ≤ b := by
      rcases e' with z | z
      · rw [z]; exact Nat.le_add_right _ _
      · rw [z]; exact Nat.le_refl _
    exact I1.fpOk hle (I1.hok.fresh hle)
section
variable {X : Cx} {C : CT} {W : WX} {a b c e tg : Expr} {fa fb fc' fe : EF} {pos : Pos} {m m1 m' : List Addr} {H H1 H' : Hp} {μ μ1 μ' : Hq} {K : PySem.W.Frag}
theorem enumD_len : ∀ (xs : List D) (n : Nat), (enumD n xs).length = xs.length
  | [], _ => rfl
  | x :: xs, n => by show (enumD (n + 1) xs).length + 1 = _; rw [enumD_len xs]; rfl
theorem enumD_get : ∀ (xs : List D) (n i : Nat) (x : D), xs[i]? = some x → (enumD n xs)[i]? = some (.tup [.int ((n + i : Nat) : Int), x])
  | [], _, _, _, e => by simp at e
  | y :: xs, n, 0, x, e => by simp at e; subst e; rfl
  | y :: xs, n, i + 1, x, e => by
    have := enumD_get xs (n + 1) i x (by simpa using e)
    show (enumD (n + 1) xs)[i]? = _
    rw [this, show n + 1 + i = n + (i + 1) by omega]
theorem enum_yield {xs : List D} {vs : List V} {i : Nat} {x : V} {m1 : List Addr} {H1 H2 : Hp} {μ1 : Hq} (h2 : DsR K m1 H1 xs vs) (R1 : Rp K m1 H1 μ1) (y : YPair (fun i => some (.int (i : Nat))) (fun i => vs[i]?) i H1 x H2) :
    ∃ d, (enumD 0 xs)[i]? = some d ∧ Ext m1 H1 μ1 m1 H2 μ1 ∧ Rp K m1 H2 μ1 ∧ DR K m1 H2 d x := by
  obtain ⟨T, a, b, rfl, hn, rfl, e1, e2⟩ := y
  cases e1
  obtain ⟨d, q1, q2⟩ := h2.getV e2
  refine ⟨_, enumD_get xs 0 i d q1, Ext.laid R1 hn, R1.laid hn, ?_⟩
  unfold DR
  refine ⟨T, [.int (i : Nat), b], rfl, .inl (.inl upd_same), .cons (by unfold DR; rw [Nat.zero_add]) (.cons (q2.ext (Ext.laid R1 hn) R1) .nil)⟩
theorem iv_enum {p pos tpos : Pos} {elts : List Expr} {kk : Nat} (hg : Gl X "enumerate") (hm : X.mg "enumerate" = none) (he : PE X e (tE X.K C W fe)) (hs : starEach [e] X.env = (false, eval e X.env) :: starEach [] X.env := by rfl) :
    PI X (.Tuple elts kk tpos) (.Call (.Name "enumerate" p) [e] [] pos) (tI X.K C W (iEnum fe)) := by
  refine PI.imp (pi_enumA hg hm he hs) fun σ H Q h => ?_
  obtain ⟨m, ρ, μ, R0, E0, P⟩ := h
  refine ⟨m, ρ, μ, R0, E0, (PostI.bind P).mono fun v H1 ⟨m1, μ1, t, E, R1, T1, P1⟩ => ?_⟩
  have T := T1.1
  clear T1
  split at P1
  · rename_i it hit
    unfold enOf at hit
    split at hit
    · cases hit
      obtain ⟨p, vs, rfl, h1, h2⟩ := tup_TC T
      refine ⟨p, rfl, .inr ⟨⟨vs, h1⟩, PostI.ok R1 P1 ⟨fun r e => (nomatch e), (fun H => SqT X.K H p vs), _, ?_, fun m' H' μ' E R' => Mi.SqT.ext E R1 h1, fun i x m1 H1 μ1 H2 hi E R1' y => enum_yield (h2.ext E R1) R1' y⟩⟩⟩
      show Walk (IteT X.K p) (enumD 0 _).length _ _
      rw [enumD_len, h2.length]; exact walk_enumT
    · cases hit
      have T : DR X.K m1 H1 (.fl _) v := T
      unfold DR at T
      obtain ⟨p, vs, rfl, h1, h2⟩ := T
      refine ⟨p, rfl, .inl ⟨⟨vs, h1.now⟩, PostI.ok R1 P1 ⟨fun r e => (nomatch e), (fun H => SqL X.K H p vs), _, ?_, fun m' H' μ' E R' => (h1.ext E R1).now, fun i x m1 H1 μ1 H2 hi E R1' y => enum_yield (h2.ext E R1) R1' y⟩⟩⟩
      show Walk (Ite X.K p) (enumD 0 _).length _ _
      rw [enumD_len, h2.length]; exact walk_enum
    · cases hit
      obtain ⟨p, vs, rfl, hn, h1, h2⟩ := T
      refine ⟨p, rfl, .inl ⟨⟨vs, .of h1⟩, PostI.ok R1 P1 ⟨fun r e => (nomatch e), (fun H => SqL X.K H p vs), _, ?_, fun m' H' μ' E R' => .of (E.oth p _ h1 hn), fun i x m1 H1 μ1 H2 hi E R1' y => enum_yield (h2.ext E R1) R1' y⟩⟩⟩
      show Walk (Ite X.K p) (enumD 0 _).length _ _
      rw [enumD_len, h2.length]; exact walk_enum
    · cases hit
  · exact P1.elim
/-! ### texts too -/
def iAnyS (K : PySem.W.Frag) (te : TE) : TI := fun σ H R => te σ H fun x H1 => (∃ z, x = .str z ∧ R (Its z) H1) ∨ ∃ p, x = .ref p ∧ ((∃ xs, SqL K H1 p xs) ∧ R (Itl K p) H1 ∨ (∃ xs, SqT K H1 p xs) ∧ R (Itt K p) H1)
theorem pi_anyS {l : Expr} {tl : TE} (hl : PE X l tl) : PI X tg l (iAnyS X.K tl) := by
  refine ⟨fun pins s σ H R I h => ?_⟩
  refine thn (hl.run pins s σ H _ I h) fun v s1 ⟨x, H1, I1, r1, q1⟩ => ?_
  rcases q1 with ⟨z, rfl, q⟩ | ⟨p, e, q1⟩
  · obtain ⟨t, rfl⟩ := r1
    cases ha : z.cps.all (· < 128)
    · exact wpAny_pyIter_wide ha (pi_one (tk := s1.toks) I1 _ (turn_str _ z t "str_iterator" (.inr rfl)) ⟨_, Heap.get?_push_size _ rfl, rfl, rfl⟩ q)
    · exact wpAny_pyIter_ascii ha (pi_one (tk := s1.toks) I1 _ (turn_str _ z t "str_ascii_iterator" (.inl rfl)) ⟨_, Heap.get?_push_size _ rfl, rfl, rfl⟩ q)
  · subst e
    cases r1
    rcases q1 with ⟨⟨xs, hq⟩, q⟩ | ⟨⟨xs, hq⟩, q⟩
    · obtain ⟨its, rv, pl, hz⟩ := I1.list hq
      refine wpAny_pyIter_list pl.isList ?_
      refine ⟨s1.heap.objs.size, [s1.heap.objs.size], _, _, H1, rfl, I1.kept (t' := s1.toks) fun b o e => Heap.get?_push_of_some _ e, turn_list p _, ⟨_, Heap.get?_push_size _ rfl, rfl, rfl⟩, fun b hb => ?_, q⟩
      have e : b = s1.heap.objs.size := by simpa using hb
      subst e
      exact I1.fpOk (Nat.le_refl _) (I1.hok.fresh (Nat.le_refl _))
    · obtain ⟨its, rv, pl, hz⟩ := I1.tuple hq
      refine wpAny_pyIter_tuple (show s1.heap.IsTuple p its.toArray from pl) ?_
      refine ⟨s1.heap.objs.size, [s1.heap.objs.size], _, _, H1, rfl, I1.kept (t' := s1.toks) fun b o e => Heap.get?_push_of_some _ e, turn_tuple p _, ⟨_, Heap.get?_push_size _ rfl, rfl, rfl⟩, fun b hb => ?_, q⟩
      have e : b = s1.heap.objs.size := by simpa using hb
      subst e
      exact I1.fpOk (Nat.le_refl _) (I1.hok.fresh (Nat.le_refl _))
theorem itr_str {z : Str} (R : Rp K m H μ) : ItR K m H μ ⟨z.cps.toList.map fun c => .str ⟨#[c]⟩, none⟩ (Its z) := by
  refine ⟨fun r e => (nomatch e), (fun _ => True), (fun i H v H' => H' = H ∧ ∃ c, z.cps[i]? = some c ∧ v = .str ⟨#[c]⟩), ?_, fun m' H' μ' E R' => trivial, fun i x m1 H1 μ1 H2 hi E R1 y => ?_⟩
  · show Walk (Its z) (z.cps.toList.map fun c => D.str ⟨#[c]⟩).length _ _
    rw [List.length_map]; exact walk_str
  · obtain ⟨rfl, c, hc, rfl⟩ := y
    refine ⟨.str ⟨#[c]⟩, ?_, .refl, R1, by unfold DR; rfl⟩
    show (z.cps.toList.map fun c => D.str ⟨#[c]⟩)[i]? = _
    rw [List.getElem?_map, Array.getElem?_toList, hc]; rfl
theorem iv_eA (he : PE X e (tE X.K C W fe)) : PI X tg e (tI X.K C W (iEA fe)) := by
  refine PI.imp (pi_anyS he) fun σ H Q h => ?_
  obtain ⟨m, ρ, μ, R0, E0, P⟩ := h
  refine ⟨m, ρ, μ, R0, E0, (PostI.bind P).mono fun v H1 ⟨m1, μ1, t, E, R1, T1, P1⟩ => ?_⟩
  have T := T1.1
  clear T1
  split at P1
  · rename_i s
    exact .inl ⟨s, str_TC T, PostI.ok R1 P1 (itr_str R1)⟩
  · rename_i hno
    clear hno
    refine .inr ?_
    split at P1
    · rename_i it hit
      unfold itOf at hit
      split at hit
      · cases hit
        obtain ⟨p, vs, rfl, h1, h2⟩ := tup_TC T
        exact ⟨p, rfl, .inr ⟨⟨vs, h1⟩, PostI.ok R1 P1 (itr_tup R1 h1 h2)⟩⟩
      · cases hit
        have T : DR X.K m1 H1 (.fl _) v := T
        unfold DR at T
        obtain ⟨p, vs, rfl, h1, h2⟩ := T
        exact ⟨p, rfl, .inl ⟨⟨vs, h1.now⟩, PostI.ok R1 P1 (itr_fl R1 h1 h2)⟩⟩
      · cases hit
        obtain ⟨p, vs, rfl, hn, h1, h2⟩ := T
        exact ⟨p, rfl, .inl ⟨⟨vs, .of h1⟩, PostI.ok R1 P1 (itr_new R1 hn h1 h2)⟩⟩
      · rename_i r
        split at hit
        · rename_i xs hx
          cases hit
          have T : DR X.K m1 H1 (.ref r) v := T
          unfold DR at T
          obtain ⟨p, rfl, hr⟩ := T
          have ha : μ1[r]? = some (.lst xs) ∨ μ1[r]? = some (.fz xs) := by
            cases q : μ1[r]? with
            | none => rw [q] at hx; cases hx
            | some o => rw [q] at hx; cases o <;> cases hx <;> simp
          obtain ⟨vs, h1, h2⟩ : OR X.K m1 H1 p (.lst xs) := by
            rcases ha with h | h
            · exact R1.ob r p _ hr h
            · have q : OR X.K m1 H1 p (.fz xs) := R1.ob r p _ hr h
              exact q
          exact ⟨p, rfl, .inl ⟨⟨vs, .of h1⟩, PostI.ok R1 P1 (itr_ref R1 hr ha h1 h2)⟩⟩
        · cases hit
      · cases hit
    · exact P1.elim
/-! ### steps down -/
theorem rangeC_len : ∀ (n : Nat) (lo c : Int), (rangeC lo c n).length = n
  | 0, _, _ => rfl
  | n + 1, lo, c => by show (rangeC (lo + c) c n).length + 1 = _; rw [rangeC_len n]
theorem rangeC_get : ∀ (n i : Nat) (lo c : Int), i < n → (rangeC lo c n)[i]? = some (.int (lo + (i : Nat) * c))
  | 0, _, _, _, h => absurd h (Nat.not_lt_zero _)
  | n + 1, 0, lo, c, _ => by show some (D.int lo) = _; simp
  | n + 1, i + 1, lo, c, h => by
    show (rangeC (lo + c) c n)[i]? = _
    rw [rangeC_get n i (lo + c) c (by omega)]
    congr 2
    have : ((i + 1 : Nat) : Int) * c = (i : Int) * c + c := by rw [Int.natCast_add, Int.add_mul]; simp
    omega
theorem itr_rangeC {lo c : Int} {n : Nat} (R : Rp K m H μ) : ItR K m H μ ⟨rangeC lo c n, none⟩ (Itc lo c n) := by
  refine ⟨fun r e => (nomatch e), (fun _ => True), (YFn fun i => .int (lo + (i : Nat) * c)), ?_, fun m' H' μ' E R' => trivial, fun i x m1 H1 μ1 H2 hi E R1 y => ?_⟩
  · show Walk (Itc lo c n) (rangeC lo c n).length _ _
    rw [rangeC_len]; exact walk_rangeC
  · obtain ⟨rfl, rfl⟩ := y
    have hi : i < (rangeC lo c n).length := hi
    rw [rangeC_len] at hi
    exact ⟨_, rangeC_get n i lo c hi, .refl, R1, by unfold DR; rfl⟩
theorem iv_range3 {p : Pos} (hg : Gl X "range") (hm : X.mg "range" = none) (ha : PE X a (tE X.K C W fa)) (hb : PE X b (tE X.K C W fb)) (hc : PE X c (tE X.K C W fc')) (hs : starEach [a, b, c] X.env = (false, eval a X.env) :: starEach [b, c] X.env := by rfl) (hs2 : starEach [b, c] X.env = (false, eval b X.env) :: starEach [c] X.env := by rfl) (hs3 : starEach [c] X.env = (false, eval c X.env) :: starEach [] X.env := by rfl)
    (hpl : (backTo pos (starEach [b, c] X.env)).any (·.1) = false := by rfl) : PI X tg (.Call (.Name "range" p) [a, b, c] [] pos) (tI X.K C W (iRange3 fa fb fc')) := by
  refine PI.imp (pi_range3 hg hm (pa_cons ha (pa_cons hb (pa_cons hc pa_nil hs3) hs2) hs) hs hpl) fun σ H Q h => ?_
  obtain ⟨m, ρ, μ, R0, E0, P⟩ := h
  refine ⟨m, ρ, μ, R0, E0, (PostI.bind P).mono fun v H1 ⟨m1, μ1, t, E, R1, T1, P1⟩ => ?_⟩
  refine ⟨m1, ρ, μ1, R1, E0.ext E R0, (PostI.bind P1).mono fun w H2 hh => ?_⟩
  obtain ⟨m2, μ2, t2, F, R2', T2, P2⟩ := hh
  refine ⟨m2, ρ, μ2, R2', (E0.ext E R0).ext F R1, (PostI.bind P2).mono fun u H3 hh => ?_⟩
  obtain ⟨m3, μ3, t3, G, R3, T3, P3⟩ := hh
  have e1 := (T1.1.ext F R1).ext G R2'
  have e2 := T2.1.ext G R2'
  have e3 := T3.1
  clear T1 T2 T3
  cases t with
  | new o => exact P3.elim
  | val d1 =>
    cases t2 with
    | new o => cases d1 <;> exact P3.elim
    | val d2 =>
      cases t3 with
      | new o => cases d1 <;> cases d2 <;> exact P3.elim
      | val d3 =>
        cases d1 <;> cases d2 <;> cases d3 <;> first
          | exact P3.elim
          | skip
        rename_i i j k
        dsimp only at P3
        by_cases hk : k = -1 ∧ (i < 1000000000 ∧ -1000000000 < i) ∧ (j < 1000000000 ∧ -1000000000 < j)
        · rw [if_pos hk] at P3
          refine ⟨i, j, -1, (i - j).toNat, by rw [int_TC e1, int_TC e2, int_TC e3, hk.1], RgC.neg (by omega) (by omega) (by omega) (by omega), PostI.ok R3 P3 (itr_rangeC R3)⟩
        · rw [if_neg hk] at P3; exact P3.elim
end
end Mi
end
section
set_option Elab.async false
set_option linter.all false
set_option maxRecDepth 100000
set_option maxHeartbeats 1000000
/-! MiW: op= of ints and texts; texts as constants of a module. -/
namespace Mi
open PySem PySem.Spec PyProof.Rows L2
def rAddJ : R2 := fun x y H Q => rI0 (fun i j => .int (i + j)) x y H Q ∨ ∃ i j, x = .str i ∧ y = .str j ∧ i.length + j.length ≤ sizeLine ∧ Q (.str (i ++ j)) H
theorem ip_addJ {X : Cx} : PIp X .Add rAddJ := iop_add.or iop_add_str
theorem o_addJ {K : PySem.W.Frag} : Op2 K opAddJ rAddJ := by
  intro C W m H μ x y v1 v2 Q R T1 T2 P
  unfold opAddJ at P
  split at P
  · exact .inl ⟨_, _, int_TC T1, int_TC T2, Post.ok R P int_TR⟩
  · obtain ⟨hz, P⟩ := cap_post P
    exact .inr ⟨_, _, str_TC T1, str_TC T2, big_line hz, Post.ok R P str_TR⟩
  · exact P.elim
section
variable {X : Cx} {C : CT} {W : WX} {a b c e : Expr} {fa fb fc : TF} {pos : Pos}
theorem pt_ifExp {tc ta tb : TT} (hc : PT X c tc) (ha : PT X a ta) (hb : PT X b tb) : PT X (.IfExp c a b pos) (fun σ H Q => tc σ H fun k H1 => if k = true then ta σ H1 Q else tb σ H1 Q) := by
  refine ⟨fun pins s σ H Q I h => ?_⟩
  show wpAny _ _ (do if ← isTrue c X.env (eval c X.env) then isTrue a X.env (eval a X.env) else isTrue b X.env (eval b X.env)) _ _ _
  refine wpAny_bind (thn (hc.run pins s σ H _ I h) fun d s1 ⟨H1, I1, q1⟩ => ?_)
  cases d with
  | true => exact ha.run pins s1 σ H1 Q I1 q1
  | false => exact hb.run pins s1 σ H1 Q I1 q1
theorem tv_if (hc : PT X c (tT X.K C W fc)) (ha : PT X a (tT X.K C W fa)) (hb : PT X b (tT X.K C W fb)) : PT X (.IfExp c a b pos) (tT X.K C W (Mi.tIf fc fa fb)) := by
  refine PT.imp (pt_ifExp hc ha hb) fun σ H Q h => ?_
  obtain ⟨m, ρ, μ, R0, E0, P⟩ := h
  refine ⟨m, ρ, μ, R0, E0, (Post.bind relBB P).mono fun v H1 ⟨m1, μ1, k, E, R1, T1, P0, P1, ex⟩ => ?_⟩
  subst T1
  cases k with
  | true => exact iteT ⟨m1, ρ, μ1, R1, E0.ext E R0, P1⟩
  | false => exact iteF ⟨m1, ρ, μ1, R1, E0.ext E R0, P1⟩
end
theorem bt_max : bootBuiltins "max" = some (.builtin "max") := by decide +kernel
theorem bt_min : bootBuiltins "min" = some (.builtin "min") := by decide +kernel
theorem bt_sorted : bootBuiltins "sorted" = some (.builtin "sorted") := by decide +kernel
end Mi
end
section
set_option Elab.async false
set_option linter.all false
set_option maxRecDepth 100000
set_option maxHeartbeats 1000000
/-! MiY: raise X() and try .. except X. -/
namespace Mi
open PySem PySem.Spec PyProof.Rows L2
/-- X(), X an own exception class without own __init__ -/
theorem pmk_own0 {X : Cx} {C : Addr} {bmB : List Value} {B newId initId : String} {x : Str} {p pos : Pos} (F : ExcBaseFacts B newId initId bmB) (q : PySem.W.excIn X.K C bmB newId = true) (gC : X.mg x = some (.ref C))
    (kC : PySem.W.keepIn X.K (.ref C) = true) (r : Raises X (.ref C)) (hg : Gl X x) (hdb : (x == ("__debug__" : Str)) = false := by decide) :
    PMk X (.Call (.Name x p) [] [] pos) (fun _ H Q => Q (.ref C) none H) := by
  intro pins s σ H Q I h
  refine wpAny_Call_Name_kw (ld_glob I hg gC ?_ hdb)
  refine PySem.W.callWith_K0 I.kIn kC ?_
  show wpAny _ _ (call (.ref C) []) _ _ _
  obtain ⟨bm, N, nm, qn, bs, hdct, sn, sub, ab, col, dd, k0, k1, k2, k3, k5, mN, hC, hN, hni, T⟩ := exc_obj I.kIn q
  refine wpAny_call_exc_subT F T hC hN hni (fun h' e hm => ?_) (Nat.zero_le _)
  exact mk_of I hm r h (I.hok.gone hm.new)
section
variable {X : Cx} {C : CT} {W : WX} {pos : Pos} {m m1 : List Addr} {H H1 : Hp} {μ μ1 : Hq} {K : PySem.W.Frag} {fb fs : SF}
theorem sv_raise0 {c : Nat} {e : Expr} (hc : X.calm = true) (tk : Takes X W) (he : PMk X e (fun _ H Q => Q (C c).1 none H)) : PS X (.Raise (some e) none pos) (tS X.K C W (sRz c)) := by
  refine PS.imp (ps_raise hc tk he) fun D σ H h => ?_
  obtain ⟨m, ρ, μ, R0, E0, P⟩ := h
  exact P m H σ none .refl R0 E0 (.inl ⟨rfl, rfl⟩)
/-- behind a suite that lets nothing out -/
theorem PostS.calm {W W' : WX} {r : RS} {D : Ends} (h : PostS K C W m H μ (calmS r) D) : PostS K C W' m H μ r D := by
  cases r with
  | ok f ρ' μ' => cases f <;> exact h
  | exc c p ρ' μ' => exact h.elim
  | fail => exact h
theorem sv_try {x : Str} {cv : Value} {body suite : List Stmt} {b₀ : Stmt} {np pos' : Pos} {ks : List (Nat × Bool)} (hs : X.stack = X.env :: X.outer) (hf : X.env.frame = some X.env.locals) (hc : Names X x cv) (tk : Takes X W)
    (hk : ∀ c k, lookK ks c = some k → PySem.W.exmOne X.K (C c).1 cv = some k)
    (hb : ∀ (W : WX) (pn : List (Addr × Obj)) (xe : Value → Shared → Prop), Takes (X.tr pn xe) W → PassesOwn (model X.prog X.w) X.A X.env xe → PSs (X.tr pn xe) body (tS X.K C W fb))
    (hsu : ∀ (a : Addr) (oe : Obj) (cls : Value) (d : Option Addr) (pn : List (Addr × Obj)), Zc cls d oe → (∃ vs, oe.data = .fields vs) → PSs (X.suite a ((a, oe) :: pn)) (b₀ :: suite) (tS X.K C (fun _ _ _ _ => False) fs)) :
    PS X (.Try body [.ExceptHandler (some (.Name x np)) none (b₀ :: suite) pos'] [] [] pos) (tS X.K C W (sTry fb ks fs)) := by
  refine PS.imp (ps_try_only (tb := fun W => tS X.K C W fb) (ts := fun _ _ _ => tS X.K C (fun _ _ _ _ => False) fs) (Wout := W) hs hf hc tk hb hsu) fun D σ H h => ?_
  obtain ⟨m, ρ, μ, R0, E0, P⟩ := h
  refine ⟨m, ρ, μ, R0, E0, ?_⟩
  unfold sTry at P
  cases q : fb ρ μ with
  | ok f ρ1 μ1 => rw [q] at P; cases f <;> exact P
  | fail => rw [q] at P; exact P
  | exc c p ρ1 μ1 =>
    rw [q] at P
    intro m' H' σ' dx E R' E' hp
    dsimp only at P
    cases hl : lookK ks c with
    | none => rw [hl] at P; exact P.elim
    | some k =>
      rw [hl] at P
      refine ⟨k, hk c k hl, fun ek a ha => ?_, fun ek => ?_⟩
      · subst ek
        exact ⟨m', ρ1, μ1, R', E', PostS.step E R' (PostS.calm P)⟩
      · subst ek
        exact P m' H' σ' dx E R' E' hp
end
/-- what is known of a class that is raised -/
structure ExC (K : PySem.W.Frag) (mg : Str → Option Value) (C : CT) (c : Nat) (x : Str) : Prop where
  ex : ∃ Ca : Addr, (C c).1 = .ref Ca ∧ mg x = some (.ref Ca) ∧ PySem.W.excIn K Ca [.type "ValueError", .type "Exception", .type "BaseException", .type "object"] "ValueError.__new__" = true ∧ PySem.W.keepIn K (.ref Ca) = true ∧
    PySem.W.subIn K (.ref Ca) (.type "BaseException") = some true ∧ PySem.W.typeIn K (.ref Ca) = some (.type "type")
/-- what is known of a class that a clause names: which of the classes it catches -/
structure TrC (K : PySem.W.Frag) (mg : Str → Option Value) (C : CT) (ks : List (Nat × Bool)) (x : Str) : Prop where
  ex : ∃ Ca : Addr, mg x = some (.ref Ca) ∧ ∀ c k, lookK ks c = some k → PySem.W.exmOne K (C c).1 (.ref Ca) = some k
section
variable {X : Cx} {C : CT} {W : WX} {pos : Pos} {fb fs : SF}
theorem sv_raiseX {c : Nat} {x : Str} {p p2 : Pos} (T : ExC X.K X.mg C c x) (hc : X.calm = true) (tk : Takes X W) (hg : Gl X x) (hdb : (x == ("__debug__" : Str)) = false := by decide) : PS X (.Raise (some (.Call (.Name x p) [] [] p2)) none pos) (tS X.K C W (sRz c)) := by
  obtain ⟨Ca, e, g, q, k, b, t⟩ := T.ex
  refine sv_raise0 hc tk ?_
  rw [e]
  exact pmk_own0 PySem.F.excBase_ValueError q g k (raises_own b t) hg hdb
theorem sv_tryX {x : Str} {body suite : List Stmt} {b₀ : Stmt} {np pos' : Pos} {ks : List (Nat × Bool)} (T : TrC X.K X.mg C ks x) (hs : X.stack = X.env :: X.outer) (hf : X.env.frame = some X.env.locals) (hg : Gl X x) (tk : Takes X W)
    (hb : ∀ (W : WX) (pn : List (Addr × Obj)) (xe : Value → Shared → Prop), Takes (X.tr pn xe) W → PassesOwn (model X.prog X.w) X.A X.env xe → PSs (X.tr pn xe) body (tS X.K C W fb))
    (hsu : ∀ (a : Addr) (oe : Obj) (cls : Value) (d : Option Addr) (pn : List (Addr × Obj)), Zc cls d oe → (∃ vs, oe.data = .fields vs) → PSs (X.suite a ((a, oe) :: pn)) (b₀ :: suite) (tS X.K C (fun _ _ _ _ => False) fs)) (hdb : (x == ("__debug__" : Str)) = false := by decide) :
    PS X (.Try body [.ExceptHandler (some (.Name x np)) none (b₀ :: suite) pos'] [] [] pos) (tS X.K C W (sTry fb ks fs)) := by
  obtain ⟨Ca, g, hk⟩ := T.ex
  exact sv_try hs hf ⟨hg, hdb, .inl g⟩ tk hk hb hsu
end
theorem lk_nil {K : PySem.W.Frag} {C : CT} {cv : Value} : ∀ c k, lookK [] c = some k → PySem.W.exmOne K (C c).1 cv = some k := fun _ _ h => by cases h
theorem lk_cons {K : PySem.W.Frag} {C : CT} {cv : Value} {n : Nat} {b : Bool} {ks : List (Nat × Bool)} (h1 : PySem.W.exmOne K (C n).1 cv = some b) (h2 : ∀ c k, lookK ks c = some k → PySem.W.exmOne K (C c).1 cv = some k) : ∀ c k, lookK ((n, b) :: ks) c = some k → PySem.W.exmOne K (C c).1 cv = some k := by
  intro c k h
  unfold lookK at h
  by_cases e : n = c
  · rw [if_pos e] at h
    cases h; subst e; exact h1
  · rw [if_neg e] at h
    exact h2 c k h
end Mi
end
section
set_option Elab.async false
set_option linter.all false
set_option maxRecDepth 100000
set_option maxHeartbeats 1000000
/-! MiZ: x[::-1] of lists and tuples, x & 1. -/
namespace HT
open PySem PySem.Spec PyProof.Rows PySem.W
section
variable {prog : Program} {w : World} {A : Around} {E : Value → Shared → Prop} {s : Shared}
theorem mi_applied_rev {sl : Addr} {vl vu vs : Value} {n : Nat} {Q : Int × Int × Nat → Shared → Prop} (hs : s.heap.IsSliceOf sl vl vu vs) (pl : IsPart vl none) (pu : IsPart vu none) (ps : IsPart vs (some (-1)))
    (h : Q ((n : Int) - 1, -1, n) s) : wpAny (model prog w) A (Builtin.Slice.sliceApplied (.ref sl) (pure (n : Int))) Q E s := by
  obtain ⟨os, hos, hcs, hds⟩ := id hs
  unfold Builtin.Slice.sliceApplied Builtin.Slice.sliceFields
  refine wpAny_bind (wpAny_bind (wpAny_field hos hds (x := vl) rfl (wpAny_bind (wpAny_field hos hds (x := vu) rfl (wpAny_bind (wpAny_field hos hds (x := vs) rfl (wpAny_pure ?_)))))))
  refine wpAny_bind (slicePart_ ps ?_)
  show wpAny _ _ (if ((-1 : Int) == 0) = true then _ else _) _ _ s
  rw [if_neg (by decide)]
  refine wpAny_bind (slicePart_ pl (wpAny_bind (slicePart_ pu (wpAny_bind (wpAny_pure ?_)))))
  show wpAny _ _ (match Builtin.Slice.sliceAdjust none none (-1) (n : Int) with | (lo, hi) => pure (lo, (-1 : Int), Builtin.Slice.slicePlaces lo hi (-1))) _ _ s
  have e1 : Builtin.Slice.sliceAdjust none none (-1) (n : Int) = ((n : Int) - 1, -1) := by
    unfold Builtin.Slice.sliceAdjust
    simp
  have e2 : Builtin.Slice.slicePlaces ((n : Int) - 1) (-1) (-1) = n := by
    unfold Builtin.Slice.slicePlaces
    rw [if_neg (by decide)]
    by_cases hn : n = 0
    · subst hn; rfl
    · rw [if_pos (by omega)]
      simp
  rw [e1]
  dsimp only
  rw [e2]
  exact wpAny_pure h
theorem mi_pick_rev (xs : Array Value) : ((List.range xs.size).filterMap fun (k : Nat) => xs[(((xs.size : Nat) : Int) - 1 + (k : Int) * -1).toNat]?).toArray = xs.toList.reverse.toArray := by
  congr 1
  have e : (List.range xs.size).filterMap (fun (k : Nat) => xs[(((xs.size : Nat) : Int) - 1 + (k : Int) * -1).toNat]?) = (List.range xs.size).filterMap (fun k => xs[xs.size - 1 - k]?) := by
    refine congrArg (fun f => List.filterMap f (List.range xs.size)) (funext fun k => ?_)
    rw [show (((xs.size : Nat) : Int) - 1 + (k : Int) * -1).toNat = xs.size - 1 - k by omega]
  rw [e]
  have h2 : (List.range xs.size).filterMap (fun k => xs[xs.size - 1 - k]?) = ((List.range xs.size).map fun k => xs.size - 1 - k).filterMap (xs[·]?) := by
    rw [List.filterMap_map]; rfl
  rw [h2, PySem.W.krv_range, List.filterMap_reverse, PySem.W.krv_all]
theorem mi_getItem_tuple_rev {t sl : Addr} {items : Array Value} {vl vu vs : Value} {Q : Value → Shared → Prop} (ht : IsTup s.heap t items) (hs : s.heap.IsSliceOf sl vl vu vs) (pl : IsPart vl none) (pu : IsPart vu none) (ps : IsPart vs (some (-1)))
    (h : Q (.ref s.heap.objs.size) { s with heap := s.heap.push { cls := .type "tuple", data := .seq items.toList.reverse.toArray } })
    (hsz : items.size ≤ sizeLine) : wpAny (model prog w) A (getItem (.ref t) (.ref sl)) Q E s := by
  have htake : sizeOk (.seq items.toList.reverse.toArray) := by
    show items.toList.reverse.toArray.size ≤ sizeLine
    rw [List.size_toArray, List.length_reverse, Array.length_toList]
    exact hsz
  obtain ⟨os, hos, hcs, hds⟩ := id hs
  have hTs : s.TypeIs (.ref sl) "slice" := ⟨os, hos, hcs⟩
  unfold getItem
  try with_reducible refine wpAny_holding ?_
  first | refine wpAny_bind (wpAny_pure ?_) | skip
  refine wpAny_bind (wpAny_sequenceKey ht.typeIs (by decide) ?_)
  refine wpAny_bind (wpAny_callSpecial?_slot (name := Str.ofString "__getitem__") ht.typeIs PyProof.Rows.slot_tuple_getitem
    (wpAny_call_entry PyProof.Rows.slot_tuple_getitem ht.typeIs entry_tuple_getitem ?_ (args_tuple_getitem _ _)))
  show wpAny _ _ (Builtin.Tuple.tupleItemsOf (.ref t) >>= _) _ _ s
  refine wpAny_bind (tupleItemsOf_ ht ?_)
  refine wpAny_bind (wpAny_typeOf hTs ?_)
  rw [if_pos (by decide)]
  refine wpAny_bind (mi_applied_rev hs pl pu ps ?_)
  have hno : ¬ ((((items.size : Int) - 1) == 0 && (-1 : Int) == 1 && items.size == items.size) = true) := by
    intro q
    rw [Bool.and_eq_true, Bool.and_eq_true] at q
    exact absurd q.1.2 (by decide)
  show wpAny _ _ (if (((items.size : Int) - 1) == 0 && (-1 : Int) == 1 && items.size == items.size) = true then _ else _) _ _ s
  rw [if_neg hno, mi_pick_rev]
  first
    | exact wpAny_bind (m := Builtin.Tuple.tupleExact _) (wpAny_newObj_type (wpAny_pure ⟨_, rfl, wpAny_pure h⟩) htake)
    | exact wpAny_bind (m := Builtin.Tuple.tupleExact _) (wpAny_newObj_type (wpAny_bind (wpAny_pure (wpAny_pure ⟨_, rfl, wpAny_pure h⟩))) htake)
    | exact wpAny_bind (wpAny_bind (m := Builtin.Tuple.tupleExact _) (wpAny_newObj_type (wpAny_pure (wpAny_pure ⟨_, rfl, wpAny_pure h⟩)) htake))
    | exact wpAny_bind (wpAny_bind (m := Builtin.Tuple.tupleExact _) (wpAny_newObj_type (wpAny_pure ⟨_, rfl, wpAny_pure h⟩) htake))
end
end HT
namespace Mi
open PySem PySem.Spec PyProof.Rows L2
section
variable {X : Cx} {C : CT} {W : WX} {pos : Pos} {fe : EF} {K : PySem.W.Frag}
def rRevA (K : PySem.W.Frag) : V → Hp → VK → Prop := fun x H Q => ∃ a xs, x = .ref a ∧ ((SqL K H a xs ∧ ∀ p, H p = none → Q (.ref p) (upd H p (.lst xs.reverse))) ∨ (SqT K H a xs ∧ ∀ p, H p = none → Q (.ref p) (upd H p (.tup xs.reverse))))
theorem pe_revA {e : Expr} {te : TE} {k : Nat} {p1 p2 p3 pos : Pos} (he : PE X e te) : PE X (.Subscript e (.Slice none none (some (.UnaryOp .USub (.Constant (.int 1) k p1) p2)) p3) pos) (fun σ H Q => te σ H fun x H1 => rRevA X.K x H1 Q) := by
  refine ⟨fun pins s σ H Q I h => ?_⟩
  refine Subscript_ (thn (he.run pins s σ H _ I h) fun v s1 ⟨x, H1, I1, r1, q1⟩ => ?_)
  obtain ⟨a, xs, ex, q1⟩ := q1
  subst ex
  cases r1
  have hst : PO X (some (.UnaryOp .USub (.Constant (.int 1) k p1) p2)) (tPart (tUn (rU fun i => .int (-i)) (tC (.int 1)))) := po_some (pe_un un_neg pe_int)
  refine wpAny_Slice (thn (po_none.run pins s1 σ H1 (fun o H2 => o = none ∧ H2 = H1) I1 ⟨rfl, rfl⟩) fun vl s2 ⟨l, H2, I2, pl, el, e2⟩ => ?_)
  subst el e2
  refine thn (po_none.run pins s2 σ H2 (fun o H3 => o = none ∧ H3 = H2) I2 ⟨rfl, rfl⟩) fun vu s3 ⟨u, H3, I3, pu, eu, e3⟩ => ?_
  subst eu e3
  refine thn (hst.run pins s3 σ H3 (fun o H4 => o = some (-1) ∧ H4 = H3) I3 ⟨1, rfl, -1, rfl, rfl, rfl⟩) fun vs s4 ⟨o, H4, I4, ps, eo, e4⟩ => ?_
  subst eo e4
  have I5 : Inv X pins σ H4 { s4 with heap := s4.heap.push { cls := .type "slice", data := .fields #[vl, vu, vs] } } := I4.kept (t' := s4.toks) fun b ob q => Heap.get?_push_of_some _ q
  show wpAny (model X.prog X.w) X.A (subscriptTail e (.Slice none none (some (.UnaryOp .USub (.Constant (.int 1) k p1) p2)) p3) (.ref a) (.ref s4.heap.objs.size)) (EP X pins σ Q) X.xe { s4 with heap := s4.heap.push { cls := .type "slice", data := .fields #[vl, vu, vs] } }
  rcases q1 with ⟨hx, q⟩ | ⟨hx, q⟩
  · obtain ⟨its, r, ht, hz⟩ := I5.list hx
    have hlen := r.length
    refine tail_any (ops := [.ref a, .ref s4.heap.objs.size]) ht.isList.typeIs (PySem.slot_list_getitem.lookup) ?_ (by with_unfolding_all rfl)
    refine wpAny_getItem_list_slice ht.isList (Heap.IsSliceOf.new _ vl vu vs) pl pu ps (by decide) ?_ (by rw [List.size_toArray]; omega)
    rw [PySem.W.krv_pick]
    refine ⟨.ref _, _, I5.laid (t' := s4.toks) (o := .lst xs.reverse) (fun b ob q => Heap.get?_push_of_some _ q) (Nat.le_refl _) ?_, rfl, q _ (I5.hok.fresh (Nat.le_refl _))⟩
    exact ⟨by rw [List.length_reverse]; exact hz, _, 0, r.reverse, Heap.get?_push_size _ rfl⟩
  · obtain ⟨its, r, ht, hz⟩ := I5.tuple hx
    have hlen := r.length
    refine tail_any (ops := [.ref a, .ref s4.heap.objs.size]) ht.typeIs (PyProof.Rows.slot_tuple_getitem.lookup) ?_ (by with_unfolding_all rfl)
    refine HT.mi_getItem_tuple_rev ht (Heap.IsSliceOf.new _ vl vu vs) pl pu ps ?_ (by rw [List.size_toArray]; omega)
    refine ⟨.ref _, _, I5.laid (t' := s4.toks) (o := .tup xs.reverse) (fun b ob q => Heap.get?_push_of_some _ q) (Nat.le_refl _) ?_, rfl, q _ (I5.hok.fresh (Nat.le_refl _))⟩
    exact ⟨by rw [List.length_reverse]; exact hz, _, r.reverse, IsTup.new _ _⟩
theorem DsR.rev {m : List Addr} {H : Hp} : ∀ {ds : List D} {vs : List V}, DsR K m H ds vs → DsR K m H ds.reverse vs.reverse
  | [], vs, h => by rw [h.nil_iff]; exact .nil
  | d :: ds, vs, h => by
    obtain ⟨v, t, rfl, h1, h2⟩ := h.cons_iff
    rw [List.reverse_cons, List.reverse_cons]
    exact (DsR.rev h2).append (.cons h1 .nil)
theorem o_rev : Op1 K opRev (rRevA K) := by
  intro C W m H μ x v Q R T P
  unfold opRev at P
  split at P
  · obtain ⟨a, vs, rfl, h1, h2⟩ := tup_TC T
    exact ⟨a, vs, rfl, .inr ⟨h1, fun p hp => new_tup R h2.rev P hp⟩⟩
  · split at P
    · rename_i xs hx
      obtain ⟨a, vs, rfl, h1, h2⟩ := lq_TC R T hx
      exact ⟨a, vs, rfl, .inl ⟨h1, fun p hp => new_lst R h2.rev P hp⟩⟩
    · exact P.elim
theorem ev_rev {e : Expr} {k : Nat} {p1 p2 p3 : Pos} (he : PE X e (tE X.K C W fe)) : PE X (.Subscript e (.Slice none none (some (.UnaryOp .USub (.Constant (.int 1) k p1) p2)) p3) pos) (tE X.K C W (e1 opRev fe)) :=
  PE.imp (pe_revA he) fun _ _ _ h => e1_to o_rev h
theorem bitAnd_one (i : Int) : Builtin.bitAnd i 1 = i % 2 := by
  have := Bits.bit_at (x := i) 0
  simpa using this
theorem o_and1 : Op2 K opAnd1 (rI0 fun i j => .int (Builtin.bitAnd i j)) := by
  intro C W m H μ x y v1 v2 Q R T1 T2 P
  unfold opAnd1 at P
  split at P
  · exact ⟨_, _, int_TC T1, int_TC T2, by dsimp only; rw [bitAnd_one]; exact Post.ok R P int_TR⟩
  · exact P.elim
end
end Mi
end
section
set_option Elab.async false
set_option linter.all false
set_option maxRecDepth 100000
set_option maxHeartbeats 1000000
/-! MiAA: list(range(..)), tuple(range(..)), more op=, tables of the module. -/
namespace Mi
open PySem PySem.Spec PyProof.Rows L2
theorem rgV_DsR {K : PySem.W.Frag} {m : List Addr} {H : Hp} : ∀ (n : Nat) (lo : Int), DsR K m H (rangeD lo n) ((List.range n).map fun i => V.int (lo + (i : Nat)))
  | 0, lo => by unfold rangeD DsR; rfl
  | n + 1, lo => by
    unfold rangeD DsR
    refine ⟨.int lo, (List.range n).map fun i => V.int (lo + 1 + (i : Nat)), ?_, by unfold DR; rfl, rgV_DsR n (lo + 1)⟩
    rw [List.range_succ_eq_map]
    simp only [List.map_cons, List.map_map]
    congr 1
    · simp
    · apply List.map_congr_left
      intro k _
      simp only [Function.comp]
      congr 1
      omega
theorem rgQ_ok {lo hi : Int} (h : rgQ lo hi = true) : RgOk lo hi := by
  unfold rgQ at h
  simp only [Bool.and_eq_true, decide_eq_true_eq] at h
  unfold RgOk
  refine ⟨?_, ?_, ?_, ?_, ?_⟩ <;> simp <;> omega
section
variable {X : Cx} {C : CT} {W : WX} {a b : Expr} {fa fb : EF} {p p2 pos : Pos}
theorem ev_lrg1 (hc : X.calm = true) (hg : Gl X "list") (hm : X.mg "list" = none) (hg2 : Gl X "range") (hm2 : X.mg "range" = none) (ha : PE X a (tE X.K C W fa)) (h1 : starEach [a] X.env = (false, eval a X.env) :: starEach [] X.env := by rfl)
    (h2 : starEach [.Call (.Name "range" p2) [a] [] pos] X.env = (false, eval (.Call (.Name "range" p2) [a] [] pos) X.env) :: starEach [] X.env := by rfl) {pos2 : Pos} : PE X (.Call (.Name "list" p) [.Call (.Name "range" p2) [a] [] pos] [] pos2) (tE X.K C W (eLRg1 fa)) := by
  refine PE.imp (pe_listRg hc hg hm (prg_1 hg2 hm2 ha h1) h2) fun σ H Q h => ?_
  obtain ⟨m, ρ, μ, R0, E0, P⟩ := h
  refine ⟨m, ρ, μ, R0, E0, (Post.bind relTR P).mono fun v H1 ⟨m1, μ1, x, E, R1, T1, _, P1, _⟩ => ?_⟩
  split at P1
  · rename_i n _ _
    split at P1
    · rename_i hq
      exact ⟨n, int_TC T1.1, rgQ_ok hq, fun q hn => new_lst R1 (by have := rgV_DsR (K := X.K) (m := m1) (H := H1) n.toNat 0; simpa [rgV] using this) P1 hn⟩
    · exact P1.elim
  · exact P1.elim
theorem ev_lrg2 (hc : X.calm = true) (hg : Gl X "list") (hm : X.mg "list" = none) (hg2 : Gl X "range") (hm2 : X.mg "range" = none) (ha : PE X a (tE X.K C W fa)) (hb : PE X b (tE X.K C W fb)) (h1 : starEach [a, b] X.env = (false, eval a X.env) :: starEach [b] X.env := by rfl) (h1b : starEach [b] X.env = (false, eval b X.env) :: starEach [] X.env := by rfl) (h1c : (((backTo pos (starEach [b] X.env)).any fun x => x.1) = false) := by rfl)
    (h2 : starEach [.Call (.Name "range" p2) [a, b] [] pos] X.env = (false, eval (.Call (.Name "range" p2) [a, b] [] pos) X.env) :: starEach [] X.env := by rfl) {pos2 : Pos} : PE X (.Call (.Name "list" p) [.Call (.Name "range" p2) [a, b] [] pos] [] pos2) (tE X.K C W (eLRg2 fa fb)) := by
  refine PE.imp (pe_listRg hc hg hm (prg_2 hg2 hm2 ha hb h1 h1b h1c) h2) fun σ H Q h => ?_
  obtain ⟨m, ρ, μ, R0, E0, P⟩ := h
  refine ⟨m, ρ, μ, R0, E0, (Post.bind relTR P).mono fun v H1 ⟨m1, μ1, x, E, R1, T1, _, P1, _⟩ => ?_⟩
  refine ⟨m1, ρ, μ1, R1, E0.ext E R0, (Post.bind relTR P1).mono fun w H2 ⟨m2, μ2, y, F, R2', T2, _, P2, _⟩ => ?_⟩
  split at P2
  · split at P2
    · rename_i hq
      exact ⟨_, _, int_TC (T1.1.ext F R1), int_TC T2.1, rgQ_ok hq, fun q hn => new_lst R2' (rgV_DsR _ _) P2 hn⟩
    · exact P2.elim
  · exact P2.elim
theorem ev_trg1 (hc : X.calm = true) (hg : Gl X "tuple") (hm : X.mg "tuple" = none) (hg2 : Gl X "range") (hm2 : X.mg "range" = none) (ha : PE X a (tE X.K C W fa)) (h1 : starEach [a] X.env = (false, eval a X.env) :: starEach [] X.env := by rfl)
    (h2 : starEach [.Call (.Name "range" p2) [a] [] pos] X.env = (false, eval (.Call (.Name "range" p2) [a] [] pos) X.env) :: starEach [] X.env := by rfl) {pos2 : Pos} : PE X (.Call (.Name "tuple" p) [.Call (.Name "range" p2) [a] [] pos] [] pos2) (tE X.K C W (eTRg1 fa)) := by
  refine PE.imp (pe_tupRg hc hg hm (prg_1 hg2 hm2 ha h1) h2) fun σ H Q h => ?_
  obtain ⟨m, ρ, μ, R0, E0, P⟩ := h
  refine ⟨m, ρ, μ, R0, E0, (Post.bind relTR P).mono fun v H1 ⟨m1, μ1, x, E, R1, T1, _, P1, _⟩ => ?_⟩
  split at P1
  · rename_i n _ _
    split at P1
    · rename_i hq
      exact ⟨n, int_TC T1.1, rgQ_ok hq, fun q hn => new_tup R1 (by have := rgV_DsR (K := X.K) (m := m1) (H := H1) n.toNat 0; simpa [rgV] using this) P1 hn⟩
    · exact P1.elim
  · exact P1.elim
theorem ev_trg2 (hc : X.calm = true) (hg : Gl X "tuple") (hm : X.mg "tuple" = none) (hg2 : Gl X "range") (hm2 : X.mg "range" = none) (ha : PE X a (tE X.K C W fa)) (hb : PE X b (tE X.K C W fb)) (h1 : starEach [a, b] X.env = (false, eval a X.env) :: starEach [b] X.env := by rfl) (h1b : starEach [b] X.env = (false, eval b X.env) :: starEach [] X.env := by rfl) (h1c : (((backTo pos (starEach [b] X.env)).any fun x => x.1) = false) := by rfl)
    (h2 : starEach [.Call (.Name "range" p2) [a, b] [] pos] X.env = (false, eval (.Call (.Name "range" p2) [a, b] [] pos) X.env) :: starEach [] X.env := by rfl) {pos2 : Pos} : PE X (.Call (.Name "tuple" p) [.Call (.Name "range" p2) [a, b] [] pos] [] pos2) (tE X.K C W (eTRg2 fa fb)) := by
  refine PE.imp (pe_tupRg hc hg hm (prg_2 hg2 hm2 ha hb h1 h1b h1c) h2) fun σ H Q h => ?_
  obtain ⟨m, ρ, μ, R0, E0, P⟩ := h
  refine ⟨m, ρ, μ, R0, E0, (Post.bind relTR P).mono fun v H1 ⟨m1, μ1, x, E, R1, T1, _, P1, _⟩ => ?_⟩
  refine ⟨m1, ρ, μ1, R1, E0.ext E R0, (Post.bind relTR P1).mono fun w H2 ⟨m2, μ2, y, F, R2', T2, _, P2, _⟩ => ?_⟩
  split at P2
  · split at P2
    · rename_i hq
      exact ⟨_, _, int_TC (T1.1.ext F R1), int_TC T2.1, rgQ_ok hq, fun q hn => new_tup R2' (rgV_DsR _ _) P2 hn⟩
    · exact P2.elim
  · exact P2.elim
end
/-! op= -/
theorem ip_mul {X : Cx} : PIp X .Mult (rI CMul fun i j => V.int (i * j)) := iop_mul
theorem ip_fdiv {X : Cx} : PIp X .FloorDiv (rI CDiv fun i j => V.int (i / j)) := iop_fdiv
theorem small_ok {i : Int} (h : smallI i = true) : -2 ^ 64 < i ∧ i < 2 ^ 64 := by
  unfold smallI at h
  simp only [Bool.and_eq_true, decide_eq_true_eq] at h
  have e : (2 : Int) ^ 64 = 18446744073709551616 := by decide
  rw [e]; exact ⟨by omega, by omega⟩
theorem o_mulI {K : PySem.W.Frag} : Op2 K opMulI (rI CMul fun i j => V.int (i * j)) := by
  intro C W m H μ x y v1 v2 Q R T1 T2 P
  unfold opMulI at P
  split at P
  · rename_i i j
    split at P
    · rename_i h
      refine ⟨i, j, int_TC T1, int_TC T2, ?_, Post.ok R P int_TR⟩
      rcases Bool.or_eq_true _ _ |>.mp h with h | h
      · exact .inl (small_ok h)
      · exact .inr (small_ok h)
    · exact P.elim
  · exact P.elim
theorem o_divI {K : PySem.W.Frag} : Op2 K opDivI (rI CDiv fun i j => V.int (i / j)) := by
  intro C W m H μ x y v1 v2 Q R T1 T2 P
  unfold opDivI at P
  split at P
  · rename_i i j
    split at P
    · rename_i h
      simp only [Bool.and_eq_true, decide_eq_true_eq] at h
      exact ⟨i, j, int_TC T1, int_TC T2, h, Post.ok R P int_TR⟩
    · exact P.elim
  · exact P.elim
/-! tables -/
/-- what is known of a module's table -/
structure KdC (K : PySem.W.Frag) (w : World) (mg : Str → Option Value) (tb : List (Str × Int)) (x : Str) : Prop where
  ex : ∃ (d : Addr) (es : Array DictEntry) (n : Nat), mg x = some (.ref d) ∧ KDict K w d es n ∧ ∀ z i, lookT tb z = some i → ∃ t, PySem.W.nsIn K d z = some (some (.int i t))
theorem ev_kd {X : Cx} {C : CT} {W : WX} {b : Expr} {fb : EF} {p pos : Pos} {x : Str} {tb : List (Str × Int)} (T : KdC X.K X.w X.mg tb x) (hg : Gl X x) (hb : PE X b (tE X.K C W fb)) (hs : PlainIx b) (hdb : (x == ("__debug__" : Str)) = false := by decide) : PE X (.Subscript (.Name x p) b pos) (tE X.K C W (eKD tb fb)) := by
  obtain ⟨d, es, n, hm, D, hz⟩ := T.ex
  refine PE.imp (pe_ix ix_kdict (pe_glob hg hm (v := .ref d) rfl hdb) hb hs) fun σ H Q h => ?_
  obtain ⟨m, ρ, μ, R0, E0, P⟩ := h
  refine ⟨m, ρ, μ, R0, E0, (Post.bind relTR P).mono fun v H1 ⟨m1, μ1, y, E, R1, T1, _, P1, _⟩ => ?_⟩
  split at P1
  · rename_i z _ _
    split at P1
    · rename_i i hl
      obtain ⟨t, ht⟩ := hz z i hl
      exact ⟨d, z, .int i, rfl, str_TC T1.1, ⟨es, n, _, D.at_, D.lit, ht, ⟨t, rfl⟩⟩, Post.ok R1 P1 int_TR⟩
    · exact P1.elim
  · exact P1.elim
/-- what exmOne answers for a class of the program -/
theorem exm_ref {K : PySem.W.Frag} {T S : Addr} {r : Bool} (h1 : PySem.W.subIn K (.ref S) (.type "BaseException") = some true) (h2 : PySem.W.isClsIn K S = true) (h3 : PySem.W.typeIn K (.ref S) = some (.type "type")) (h4 : PySem.W.subIn K (.ref T) (.ref S) = some r) :
    PySem.W.exmOne K (.ref T) (.ref S) = some r := by
  have e1 : (PySem.W.subIn K (.ref S) (.type "BaseException") == some true) = true := by rw [h1] <;> rfl
  have e2 : ((PySem.W.clsIn K S).isSome && PySem.W.typeIn K (.ref S) == some (.type "type")) = true := by
    have h2' : (PySem.W.clsIn K S).isSome = true := h2
    rw [h2', h3] <;> rfl
  show (if (PySem.W.subIn K (.ref S) (.type "BaseException") == some true) = true then (if ((PySem.W.clsIn K S).isSome && PySem.W.typeIn K (.ref S) == some (.type "type")) = true then PySem.W.subIn K (.ref T) (.ref S) else none) else none) = some r
  rw [if_pos e1, if_pos e2]
  exact h4
theorem lt_nil {K : PySem.W.Frag} {d : Addr} : ∀ z i, lookT [] z = some i → ∃ t, PySem.W.nsIn K d z = some (some (.int i t)) := fun _ _ h => by cases h
theorem lt_cons {K : PySem.W.Frag} {d : Addr} {k : Str} {v : Int} {t : Tok} {r : List (Str × Int)} (h1 : PySem.W.nsIn K d k = some (some (.int v t))) (h2 : ∀ z i, lookT r z = some i → ∃ t, PySem.W.nsIn K d z = some (some (.int i t))) : ∀ z i, lookT ((k, v) :: r) z = some i → ∃ t, PySem.W.nsIn K d z = some (some (.int i t)) := by
  intro z i h
  unfold lookT at h
  by_cases e : k = z
  · rw [if_pos e] at h; cases h; subst e; exact ⟨t, h1⟩
  · rw [if_neg e] at h; exact h2 z i h
end Mi
end
section

end
section
set_option linter.all false
set_option maxRecDepth 100000
set_option maxHeartbeats 1000000
/-! MiS: reckoning with combinators, plain Lean. -/
namespace Mi
open PySem
@[simp] theorem bind_ok {α β : Type} (a : α) (μ : Hq) (f : α → Hq → R β) : (R.ok a μ).bind f = f a μ := rfl
@[simp] theorem toS_ok {α : Type} (a : α) (μ : Hq) (ρ : Ev) (f : α → Hq → RS) : (R.ok a μ).toS ρ f = f a μ := rfl
theorem pures_ints : ∀ xs : List Int, D.pures (xs.map .int) = true
  | [] => by unfold D.pures; rfl
  | x :: xs => by
    show (D.pure (.int x) && D.pures (xs.map .int)) = true
    rw [pures_ints xs]; rfl
theorem bls_map : ∀ bs : List Bool, bls (bs.map .bl) = some bs
  | [] => rfl
  | b :: bs => by show (match bls (bs.map .bl) with | some bs => some (b :: bs) | none => none) = _; rw [bls_map bs]
theorem nums_map : ∀ bs : List Int, nums (bs.map .int) = some bs
  | [] => rfl
  | b :: bs => by show (match nums (bs.map .int) with | some bs => some (b :: bs) | none => none) = _; rw [nums_map bs]
/-- a comprehension whose turns leave the small heap as it is -/
theorem lcGo_map {g : GF} {e : EF} {ρ : Ev} {μ : Hq} (F : D → D) : ∀ xs : List D, (∀ x ∈ xs, ∃ ρ1, g x ρ μ = .ok ρ1 μ ∧ e ρ1 μ = .ok (.val (F x)) μ) → lcGo g tYs e ρ xs μ = .ok (xs.map F) μ
  | [], _ => rfl
  | x :: xs, h => by
    obtain ⟨ρ1, h1, h2⟩ := h x List.mem_cons_self
    have ih := lcGo_map F xs fun y hy => h y (List.mem_cons_of_mem _ hy)
    unfold lcGo
    rw [h1]
    show (match e ρ1 μ with | _ => _) = _
    simp only [tYs, h2, mat, ih, List.map_cons]
theorem lcGo_of {α : Type} {g : GF} {e : EF} {ρ : Ev} {μ : Hq} (I F : α → D) (xs : List α) (h : ∀ x ∈ xs, ∃ ρ1, g (I x) ρ μ = .ok ρ1 μ ∧ e ρ1 μ = .ok (.val (F x)) μ) : lcGo g tYs e ρ (xs.map I) μ = .ok (xs.map F) μ := by
  induction xs with
  | nil => rfl
  | cons x xs ih =>
    obtain ⟨ρ1, h1, h2⟩ := h x List.mem_cons_self
    have ih := ih fun y hy => h y (List.mem_cons_of_mem _ hy)
    rw [List.map_cons]
    unfold lcGo
    rw [h1]
    show (match e ρ1 μ with | _ => _) = _
    simp only [tYs, h2, mat, ih, List.map_cons]
theorem bls_of {α : Type} (F : α → Bool) (xs : List α) : bls (xs.map fun x => D.bl (F x)) = some (xs.map F) := by
  rw [show (xs.map fun x => D.bl (F x)) = (xs.map F).map D.bl by simp]
  exact bls_map _
/-- a call of values that ends with a value -/
theorem call_val {tab : List FD} {n f : Nat} {ds : List D} {μ : Hq} {fd : FD} {d : D} {ρ' : Ev} {μ' : Hq} (h1 : tab[f]? = some fd) (h2 : ds.length = fd.np) (h3 : D.pures ds = true) (h4 : D.pure d = true)
    (hb : fd.body (callF tab n) (slots fd.nn ds) [] = .ok (.rt (.val d)) ρ' μ') : callF tab (n + 1) f ds μ = .ok (.val d) μ := by
  show (match tab[f]? with | some fd => _ | none => _) = _
  rw [h1]
  show (if ds.length = fd.np then (if D.pures ds then (alone μ (enter fd (callF tab n) ds [])).orE (enter fd (callF tab n) ds μ) else enter fd (callF tab n) ds μ) else .fail) = _
  rw [if_pos h2, if_pos h3]
  unfold enter
  rw [hb]
  cases d with
  | ref r => unfold D.pure at h4; cases h4
  | non => rfl
  | bl b => rfl
  | int i => rfl
  | str s => rfl
  | tup xs => show (if _ then _ else _ : R Tv).orE _ = _; rw [if_pos h4]; rfl
  | fl xs => show (if _ then _ else _ : R Tv).orE _ = _; rw [if_pos h4]; rfl
/-- .. that falls off its end -/
theorem call_non {tab : List FD} {n f : Nat} {ds : List D} {μ : Hq} {fd : FD} {ρ' : Ev} {μ' : Hq} (h1 : tab[f]? = some fd) (h2 : ds.length = fd.np) (h3 : D.pures ds = true)
    (hb : fd.body (callF tab n) (slots fd.nn ds) [] = .ok .nx ρ' μ') : callF tab (n + 1) f ds μ = .ok (.val .non) μ := by
  show (match tab[f]? with | some fd => _ | none => _) = _
  rw [h1]
  show (if ds.length = fd.np then (if D.pures ds then (alone μ (enter fd (callF tab n) ds [])).orE (enter fd (callF tab n) ds μ) else enter fd (callF tab n) ds μ) else .fail) = _
  rw [if_pos h2, if_pos h3]
  unfold enter
  rw [hb]
  rfl
/-- .. with a new list -/
theorem call_new {tab : List FD} {n f : Nat} {ds : List D} {μ : Hq} {fd : FD} {xs : List D} {ρ' : Ev} {μ' : Hq} (h1 : tab[f]? = some fd) (h2 : ds.length = fd.np) (h3 : D.pures ds = true) (h4 : D.pures xs = true)
    (hb : fd.body (callF tab n) (slots fd.nn ds) [] = .ok (.rt (.new (.lst xs))) ρ' μ') : callF tab (n + 1) f ds μ = .ok (.new (.lst xs)) μ := by
  show (match tab[f]? with | some fd => _ | none => _) = _
  rw [h1]
  show (if ds.length = fd.np then (if D.pures ds then (alone μ (enter fd (callF tab n) ds [])).orE (enter fd (callF tab n) ds μ) else enter fd (callF tab n) ds μ) else .fail) = _
  rw [if_pos h2, if_pos h3]
  unfold enter
  rw [hb]
  show (if Ob.pure (.lst xs) = true then _ else _ : R Tv).orE _ = _
  rw [show Ob.pure (.lst xs) = true from h4, if_pos rfl]; rfl
theorem rangeD_map : ∀ (n : Nat) (lo : Int), rangeD lo n = (List.range n).map fun k => D.int (lo + (k : Nat))
  | 0, _ => rfl
  | n + 1, lo => by
    rw [List.range_succ_eq_map]
    show D.int lo :: rangeD (lo + 1) n = _
    rw [rangeD_map n (lo + 1)]
    simp only [List.map_cons, List.map_map]
    congr 1
    · simp
    · apply List.map_congr_left
      intro k _
      simp only [Function.comp]
      congr 1
      omega

/-! ### rules of reckoning -/
section
variable {α : Type} {a b e : EF} {c d : TF} {as : AF} {ρ ρ1 ρ2 : Ev} {μ μ1 μ2 μ3 : Hq} {x y : Tv} {v w : D} {ds : List D} {r : R Tv} {op : O2} {o1 : O1} {k : Bool} {s t : SF} {q : RS}
theorem q2 (h1 : a ρ μ = .ok x μ1) (h2 : b ρ μ1 = .ok y μ2) (h3 : op x y μ2 = r) : e2 op a b ρ μ = r := by unfold e2; rw [h1, bind_ok, h2, bind_ok]; exact h3
theorem q1 (h1 : a ρ μ = .ok x μ1) (h3 : o1 x μ1 = r) : e1 o1 a ρ μ = r := by unfold e1; rw [h1, bind_ok]; exact h3
theorem qn : aNil ρ μ = .ok [] μ := rfl
theorem qa (h1 : e ρ μ = .ok (.val v) μ1) (h2 : as ρ μ1 = .ok ds μ2) : aCons e as ρ μ = .ok (v :: ds) μ2 := by
  unfold aCons; rw [h1, bind_ok]
  show ((as ρ μ1).bind fun ds μ2 => .ok (v :: ds) μ2) = _
  rw [h2]; rfl
theorem qc {cf : CF} {f : Nat} (h1 : as ρ μ = .ok ds μ1) (h2 : cf f ds μ1 = r) : eCall cf f as ρ μ = r := by unfold eCall; rw [h1, bind_ok]; exact h2
theorem qtup (h1 : as ρ μ = .ok ds μ1) (hl : ds.length ≤ 1000000) : eTup as ρ μ = .ok (.val (.tup ds)) μ1 := by unfold eTup cap; rw [h1, bind_ok, if_pos hl]
theorem qlst (h1 : as ρ μ = .ok ds μ1) (hl : ds.length ≤ 1000000) : eLst as ρ μ = .ok (.new (.lst ds)) μ1 := by unfold eLst cap; rw [h1, bind_ok, if_pos hl]
theorem qand1 (h1 : a ρ μ = .ok x μ1) (h2 : tru μ1 x = some true) (h3 : b ρ μ1 = r) : eAnd a b ρ μ = r := by unfold eAnd; rw [h1, bind_ok, h2]; exact h3
theorem qand0 (h1 : a ρ μ = .ok x μ1) (h2 : tru μ1 x = some false) : eAnd a b ρ μ = .ok x μ1 := by unfold eAnd; rw [h1, bind_ok, h2]
theorem qor1 (h1 : a ρ μ = .ok x μ1) (h2 : tru μ1 x = some true) : eOr a b ρ μ = .ok x μ1 := by unfold eOr; rw [h1, bind_ok, h2]
theorem qor0 (h1 : a ρ μ = .ok x μ1) (h2 : tru μ1 x = some false) (h3 : b ρ μ1 = r) : eOr a b ρ μ = r := by unfold eOr; rw [h1, bind_ok, h2]; exact h3
theorem qnot (h1 : a ρ μ = .ok x μ1) (h2 : tru μ1 x = some k) : eNot a ρ μ = .ok (vb (!k)) μ1 := by unfold eNot; rw [h1, bind_ok, h2]
theorem qif1 (h1 : c ρ μ = .ok true μ1) (h2 : a ρ μ1 = r) : eIf c a b ρ μ = r := by unfold eIf; rw [h1, bind_ok]; exact h2
theorem qif0 (h1 : c ρ μ = .ok false μ1) (h2 : b ρ μ1 = r) : eIf c a b ρ μ = r := by unfold eIf; rw [h1, bind_ok]; exact h2
theorem tv (h1 : e ρ μ = .ok x μ1) (h2 : tru μ1 x = some k) : tV e ρ μ = .ok k μ1 := by unfold tV; rw [h1, bind_ok, h2]
theorem tb (h1 : e ρ μ = .ok (vb k) μ1) : tV e ρ μ = .ok k μ1 := tv h1 rfl
theorem tand1 {r : R Bool} (h1 : c ρ μ = .ok true μ1) (h2 : d ρ μ1 = r) : tAnd c d ρ μ = r := by unfold tAnd; rw [h1, bind_ok]; exact h2
theorem tand0 (h1 : c ρ μ = .ok false μ1) : tAnd c d ρ μ = .ok false μ1 := by unfold tAnd; rw [h1, bind_ok]; rfl
theorem tor1 (h1 : c ρ μ = .ok true μ1) : tOr c d ρ μ = .ok true μ1 := by unfold tOr; rw [h1, bind_ok]; rfl
theorem tor0 {r : R Bool} (h1 : c ρ μ = .ok false μ1) (h2 : d ρ μ1 = r) : tOr c d ρ μ = r := by unfold tOr; rw [h1, bind_ok]; exact h2
theorem tnot (h1 : c ρ μ = .ok k μ1) : tNot c ρ μ = .ok (!k) μ1 := by unfold tNot; rw [h1, bind_ok]
theorem tn1 (h1 : c ρ μ = .ok true μ1) : tNot c ρ μ = .ok false μ1 := tnot h1
theorem tn0 (h1 : c ρ μ = .ok false μ1) : tNot c ρ μ = .ok true μ1 := tnot h1
theorem sfor0 {g : GF} {i : IF} {xs : List D} {f : Fl} (h1 : i ρ μ = .ok ⟨xs, none⟩ μ1) (h2 : foGo g s xs ρ μ1 = .ok f ρ1 μ2) : sFor g i s ρ μ = .ok f ρ1 μ2 := by unfold sFor; rw [h1, toS_ok]; show unlockS none μ1 (foGo g s xs ρ μ1) = _; rw [h2]; rfl
theorem qlc0 {own : List Nat} {g : GF} {i : IF} {xs : List D} (h1 : i ρ μ = .ok ⟨xs, none⟩ μ1) (h2 : lcGo g c e (wip ρ own) xs μ1 = .ok ds μ2) (hl : xs.length ≤ 1000000) : eLc own g i c e ρ μ = .ok (.new (.lst ds)) μ2 := by
  unfold eLc; rw [h1, bind_ok]
  show (match lcGo g c e (wip ρ own) xs μ1 with | .ok ds μ2 => cap xs.length (R.ok (Tv.new (Ob.lst ds)) μ2) | _ => .fail) = _
  rw [h2]
  unfold cap
  exact if_pos hl
theorem sc (h1 : s ρ μ = .ok .nx ρ1 μ1) (h2 : t ρ1 μ1 = q) : sCons s t ρ μ = q := by unfold sCons; rw [h1]; exact h2
theorem sr {f : Fl} (h1 : s ρ μ = .ok f ρ1 μ1) (hf : ∀ z : Unit, (match f with | .nx => False | _ => True)) : sCons s t ρ μ = .ok f ρ1 μ1 := by
  unfold sCons; rw [h1]
  cases f with
  | nx => exact (hf ()).elim
  | rt _ => rfl
  | bk => rfl
  | ct => rfl
theorem sr_rt {x : Tv} (h1 : s ρ μ = .ok (.rt x) ρ1 μ1) : sCons s t ρ μ = .ok (.rt x) ρ1 μ1 := sr h1 fun _ => trivial
theorem sif1 (h1 : c ρ μ = .ok true μ1) (h2 : s ρ μ1 = q) : sIf c s t ρ μ = q := by unfold sIf; rw [h1, toS_ok]; exact h2
theorem sif0 (h1 : c ρ μ = .ok false μ1) (h2 : t ρ μ1 = q) : sIf c s t ρ μ = q := by unfold sIf; rw [h1, toS_ok]; exact h2
theorem sret (h1 : e ρ μ = .ok x μ1) : sRet e ρ μ = .ok (.rt x) ρ μ1 := by unfold sRet; rw [h1, toS_ok]
theorem sexp (h1 : e ρ μ = .ok x μ1) : sE e ρ μ = .ok .nx ρ μ1 := by unfold sE; rw [h1, toS_ok]
theorem sasg {g : GF} (h1 : e ρ μ = .ok (.val v) μ1) (h2 : g v ρ μ1 = .ok ρ2 μ2) : sAsg g e ρ μ = .ok .nx ρ2 μ2 := by
  unfold sAsg; rw [h1, toS_ok]
  show (g v ρ μ1).toS ρ _ = _
  rw [h2]; rfl
theorem sasgN {i : Nat} (h1 : e ρ μ = .ok (.val v) μ1) : sAsg (gN i) e ρ μ = .ok .nx (ρ.set i (some v)) μ1 := sasg h1 rfl
theorem sasgL {i : Nat} {o : Ob} (h1 : e ρ μ = .ok (.new o) μ1) : sAsg (gN i) e ρ μ = .ok .nx (ρ.set i (some (.ref μ1.length))) (μ1 ++ [o]) := by
  unfold sAsg; rw [h1, toS_ok]; rfl
theorem spar {i j : Nat} (h1 : as ρ μ = .ok [v, w] μ1) : sPar i j as ρ μ = .ok .nx ((ρ.set i (some v)).set j (some w)) μ1 := by unfold sPar; rw [h1]; rfl
theorem sfor {g : GF} {i : IF} {it : Itm} (h1 : i ρ μ = .ok it μ1) (h2 : unlockS it.lk μ1 (foGo g s it.xs ρ (lockq it.lk it.xs μ1)) = q) : sFor g i s ρ μ = q := by unfold sFor; rw [h1, toS_ok]; exact h2
theorem qlc {own : List Nat} {g : GF} {i : IF} {it : Itm} (h1 : i ρ μ = .ok it μ1) (h2 : lcGo g c e (wip ρ own) it.xs (lockq it.lk it.xs μ1) = .ok ds μ2) (hl : it.xs.length ≤ 1000000) : eLc own g i c e ρ μ = .ok (.new (.lst ds)) (unlockq it.lk μ1 μ2) := by
  unfold eLc; rw [h1, bind_ok, h2]
  unfold cap
  exact if_pos hl
end
/-! the same rules, the small heap as it is -/
section
variable {a b e : EF} {c d : TF} {as : AF} {ρ ρ1 ρ2 : Ev} {μ : Hq} {x y z : Tv} {v w : D} {ds : List D} {op : O2} {o1 : O1} {k : Bool} {s t : SF} {q : RS} {f : Fl}
theorem p2 (h1 : a ρ μ = .ok x μ) (h2 : b ρ μ = .ok y μ) (h3 : op x y μ = .ok z μ) : e2 op a b ρ μ = .ok z μ := q2 h1 h2 h3
theorem p1 (h1 : a ρ μ = .ok x μ) (h3 : o1 x μ = .ok z μ) : e1 o1 a ρ μ = .ok z μ := q1 h1 h3
theorem pn : aNil ρ μ = .ok [] μ := rfl
theorem pa (h1 : e ρ μ = .ok (.val v) μ) (h2 : as ρ μ = .ok ds μ) : aCons e as ρ μ = .ok (v :: ds) μ := qa h1 h2
theorem pc {cf : CF} {i : Nat} (h1 : as ρ μ = .ok ds μ) (h2 : cf i ds μ = .ok z μ) : eCall cf i as ρ μ = .ok z μ := qc h1 h2
theorem ptup (h1 : as ρ μ = .ok ds μ) (hl : ds.length ≤ 1000000) : eTup as ρ μ = .ok (.val (.tup ds)) μ := qtup h1 hl
theorem pand1 (h1 : a ρ μ = .ok (vb true) μ) (h3 : b ρ μ = .ok z μ) : eAnd a b ρ μ = .ok z μ := qand1 h1 rfl h3
theorem pand0 (h1 : a ρ μ = .ok (vb false) μ) : eAnd a b ρ μ = .ok (vb false) μ := qand0 h1 rfl
theorem por1 (h1 : a ρ μ = .ok (vb true) μ) : eOr a b ρ μ = .ok (vb true) μ := qor1 h1 rfl
theorem por0 (h1 : a ρ μ = .ok (vb false) μ) (h3 : b ρ μ = .ok z μ) : eOr a b ρ μ = .ok z μ := qor0 h1 rfl h3
theorem pnot (h1 : a ρ μ = .ok (vb k) μ) : eNot a ρ μ = .ok (vb (!k)) μ := qnot h1 rfl
theorem pif1 (h1 : c ρ μ = .ok true μ) (h2 : a ρ μ = .ok z μ) : eIf c a b ρ μ = .ok z μ := qif1 h1 h2
theorem pif0 (h1 : c ρ μ = .ok false μ) (h2 : b ρ μ = .ok z μ) : eIf c a b ρ μ = .ok z μ := qif0 h1 h2
theorem ptv (h1 : e ρ μ = .ok x μ) (h2 : tru μ x = some k) : tV e ρ μ = .ok k μ := tv h1 h2
theorem ptb (h1 : e ρ μ = .ok (vb k) μ) : tV e ρ μ = .ok k μ := tv h1 rfl
theorem ptand1 (h1 : c ρ μ = .ok true μ) (h2 : d ρ μ = .ok k μ) : tAnd c d ρ μ = .ok k μ := tand1 h1 h2
theorem ptand0 (h1 : c ρ μ = .ok false μ) : tAnd c d ρ μ = .ok false μ := tand0 h1
theorem ptor1 (h1 : c ρ μ = .ok true μ) : tOr c d ρ μ = .ok true μ := tor1 h1
theorem ptor0 (h1 : c ρ μ = .ok false μ) (h2 : d ρ μ = .ok k μ) : tOr c d ρ μ = .ok k μ := tor0 h1 h2
theorem ptn1 (h1 : c ρ μ = .ok true μ) : tNot c ρ μ = .ok false μ := tnot h1
theorem ptn0 (h1 : c ρ μ = .ok false μ) : tNot c ρ μ = .ok true μ := tnot h1
theorem psc (h1 : s ρ μ = .ok .nx ρ1 μ) (h2 : t ρ1 μ = q) : sCons s t ρ μ = q := sc h1 h2
theorem psif1 (h1 : c ρ μ = .ok true μ) (h2 : s ρ μ = q) : sIf c s t ρ μ = q := sif1 h1 h2
theorem psif0 (h1 : c ρ μ = .ok false μ) (h2 : t ρ μ = q) : sIf c s t ρ μ = q := sif0 h1 h2
/-- an if that is not taken, without else -/
theorem pskip (h1 : c ρ μ = .ok false μ) (h2 : t ρ μ = q) : sCons (sIf c s sNil) t ρ μ = q := sc (sif0 h1 rfl) h2
theorem pret (h1 : e ρ μ = .ok x μ) : sCons (sRet e) t ρ μ = .ok (.rt x) ρ μ := sr_rt (sret h1)
theorem pexp (h1 : e ρ μ = .ok x μ) (h2 : t ρ μ = q) : sCons (sE e) t ρ μ = q := sc (sexp h1) h2
theorem pset {i : Nat} (h1 : e ρ μ = .ok (.val v) μ) (h2 : t (ρ.set i (some v)) μ = q) : sCons (sAsg (gN i) e) t ρ μ = q := sc (sasgN h1) h2
theorem pasg {g : GF} (h1 : e ρ μ = .ok (.val v) μ) (h2 : g v ρ μ = .ok ρ2 μ) (h3 : t ρ2 μ = q) : sCons (sAsg g e) t ρ μ = q := sc (sasg h1 h2) h3
theorem ppar {i j : Nat} (h1 : as ρ μ = .ok [v, w] μ) (h2 : t ((ρ.set i (some v)).set j (some w)) μ = q) : sCons (sPar i j as) t ρ μ = q := sc (spar h1) h2
theorem pfor {g : GF} {i : IF} {xs : List D} (h1 : i ρ μ = .ok ⟨xs, none⟩ μ) (h2 : foGo g s xs ρ μ = .ok .nx ρ1 μ) (h3 : t ρ1 μ = q) : sCons (sFor g i s) t ρ μ = q := sc (sfor0 h1 h2) h3
end
theorem wh_inv {c : TF} {b : SF} (S : Nat → Ev) (M : Nat → Hq) (N : Nat) (hN : N < 1000000) (hc : ∀ k, k < N → c (S k) (M k) = .ok true (M k)) (hb : ∀ k, k < N → b (S k) (M k) = .ok .nx (S (k + 1)) (M (k + 1))) (he : c (S N) (M N) = .ok false (M N)) :
    sWh c b (S 0) (M 0) = .ok .nx (S N) (M N) := by
  have key : ∀ (j k f : Nat), k + j = N → j < f → whGo c b f (S k) (M k) = .ok .nx (S N) (M N) := by
    intro j
    induction j with
    | zero =>
      intro k f hk hf
      cases f with
      | zero => omega
      | succ f =>
        have : k = N := by omega
        subst this
        show ((c (S k) (M k)).toS (S k) fun q μ1 => _) = _
        rw [he]; rfl
    | succ j ih =>
      intro k f hk hf
      cases f with
      | zero => omega
      | succ f =>
        show ((c (S k) (M k)).toS (S k) fun q μ1 => _) = _
        rw [hc k (by omega), toS_ok]
        show (match b (S k) (M k) with | .ok .nx ρ2 μ2 => whGo c b f ρ2 μ2 | .ok .ct ρ2 μ2 => whGo c b f ρ2 μ2 | .ok .bk ρ2 μ2 => .ok .nx ρ2 μ2 | r => r) = _
        rw [hb k (by omega)]
        exact ih (k + 1) f (by omega) (by omega)
  exact key N 0 big (by omega) (by unfold big; omega)
/-- a for whose turns keep the small heap and go on: the slots are told by the items taken -/
theorem fo_inv {α : Type} {g : GF} {b : SF} {μ : Hq} (I : α → D) (E : List α → Ev) (h : ∀ pre x, ∃ ρ1, g (I x) (E pre) μ = .ok ρ1 μ ∧ b ρ1 μ = .ok .nx (E (pre ++ [x])) μ) :
    ∀ (xs pre : List α), foGo g b (xs.map I) (E pre) μ = .ok .nx (E (pre ++ xs)) μ
  | [], pre => by rw [List.append_nil]; rfl
  | x :: xs, pre => by
    obtain ⟨ρ1, h1, h2⟩ := h pre x
    have ih := fo_inv I E h xs (pre ++ [x])
    rw [List.map_cons]
    show ((g (I x) (E pre) μ).toS (E pre) fun ρ1 μ1 => _) = _
    rw [h1, toS_ok, h2]
    dsimp only
    rw [ih, List.append_assoc]; rfl
/-- .. where only the items of the list come -/
theorem fo_mem {α : Type} {g : GF} {b : SF} {μ : Hq} (I : α → D) (E : List α → Ev) (all : List α) (h : ∀ pre x post, all = pre ++ x :: post → ∃ ρ1, g (I x) (E pre) μ = .ok ρ1 μ ∧ b ρ1 μ = .ok .nx (E (pre ++ [x])) μ) :
    ∀ (xs pre : List α), all = pre ++ xs → foGo g b (xs.map I) (E pre) μ = .ok .nx (E all) μ
  | [], pre, e => by rw [e, List.append_nil]; rfl
  | x :: xs, pre, e => by
    obtain ⟨ρ1, h1, h2⟩ := h pre x xs e
    have ih := fo_mem I E all h xs (pre ++ [x]) (by rw [e]; simp)
    rw [List.map_cons]
    show ((g (I x) (E pre) μ).toS (E pre) fun ρ1 μ1 => _) = _
    rw [h1, toS_ok, h2]
    dsimp only
    rw [ih]
end Mi
end
section
set_option linter.all false
set_option maxRecDepth 100000
set_option maxHeartbeats 1000000
/-! MiQ: the laws' own little functions, plain. -/
namespace Mi
open PySem
/-- what _law_cell reads -/
def cellv (ns : List Int) (j : Nat) : Int := if j < ns.length then (if ns.getD j 0 < 0 then -ns.getD j 0 else ns.getD j 0) % 1000000007 else 0
theorem cellv_nn (ns : List Int) (j : Nat) : 0 ≤ cellv ns j := by unfold cellv; split <;> omega
theorem cellv_lt (ns : List Int) (j : Nat) : cellv ns j < 1000000007 := by unfold cellv; split <;> omega
/-- what _law_rich makes -/
def richv (a b : Int) : Int := (a * 48271 + b * 69621 + 17) % 2147483647 * 2147483629 + ((a * 48271 + b * 69621 + 17) % 2147483647 * 16807 + a) % 2147483629
theorem richv_nn (a b : Int) : 0 ≤ richv a b := by unfold richv; omega
theorem call_v {tab : List FD} {n f np nn : Nat} {ds : List D} {μ : Hq} {B : CF → SF} {d : D} {ρ' : Ev} {μ' : Hq} (ρ0 : Ev) (h1 : tab[f]? = some ⟨np, nn, B⟩) (h2 : ds.length = np) (hs : slots nn ds = ρ0) (h3 : D.pures ds = true) (h4 : D.pure d = true)
    (hb : B (callF tab n) ρ0 [] = .ok (.rt (.val d)) ρ' μ') : callF tab (n + 1) f ds μ = .ok (.val d) μ := by
  subst hs
  exact call_val h1 h2 h3 h4 hb
theorem call_n {tab : List FD} {n f np nn : Nat} {ds : List D} {μ : Hq} {B : CF → SF} {ρ' : Ev} {μ' : Hq} (ρ0 : Ev) (h1 : tab[f]? = some ⟨np, nn, B⟩) (h2 : ds.length = np) (hs : slots nn ds = ρ0) (h3 : D.pures ds = true)
    (hb : B (callF tab n) ρ0 [] = .ok .nx ρ' μ') : callF tab (n + 1) f ds μ = .ok (.val .non) μ := by
  subst hs
  exact call_non h1 h2 h3 hb
def cellB : SF := (sCons (sIf (tV (e2 opLt (eVar 1) (e1 opLen (eVar 0)))) (sCons (sRet (e2 opMod (e1 opAbs (e1 opInt (e2 opIx (eVar 0) (eVar 1)))) (eC (.int 1000000007)))) sNil) sNil) (sCons (sRet (eC (.int 0))) sNil))
def richB : SF := (sCons (sAsg (gN 2) (e2 opMod (e1 opInt (e2 opAdd (e2 opAdd (e2 opMul (eVar 0) (eC (.int 48271))) (e2 opMul (eVar 1) (eC (.int 69621)))) (eC (.int 17)))) (eC (.int 2147483647)))) (sCons (sRet (e2 opAdd (e2 opMul (eVar 2) (eC (.int 2147483629))) (e2 opMod (e1 opInt (e2 opAdd (e2 opMul (eVar 2) (eC (.int 16807))) (eVar 0))) (eC (.int 2147483629))))) sNil))
theorem mul_small {i j : Int} (h : i.natAbs < 18446744073709551616) (μ : Hq) : opMul (vi i) (vi j) μ = .ok (vi (i * j)) μ := by
  show (if mulOk i j = true then _ else _) = _
  refine if_pos ?_
  unfold mulOk
  rw [decide_eq_true h]; rfl
theorem mul_small' {i j : Int} (h : j.natAbs < 18446744073709551616) (μ : Hq) : opMul (vi i) (vi j) μ = .ok (vi (i * j)) μ := by
  show (if mulOk i j = true then _ else _) = _
  refine if_pos ?_
  unfold mulOk
  rw [decide_eq_true h]; simp
theorem modP {i j : Int} (h : 0 < j) (μ : Hq) : opMod (vi i) (vi j) μ = .ok (vi (i % j)) μ := if_pos h
theorem divP {i j : Int} (h : 0 < j) (h2 : j < 1073741824) (μ : Hq) : opDiv (vi i) (vi j) μ = .ok (vi (i / j)) μ := by
  show (if 0 < j then (if j < 1073741824 then _ else _) else _) = _
  rw [if_pos h, if_pos h2]
theorem at_nat {xs : List D} {j : Nat} (h : j < xs.length) : at? xs (j : Nat) = some xs[j] := by
  unfold at? ixq
  rw [if_pos (by omega), if_pos (by omega)]
  simp [h]
theorem ix_tup {xs : List D} {j : Nat} {d : D} (h : xs[j]? = some d) (μ : Hq) : opIx (.val (.tup xs)) (vi (j : Nat)) μ = .ok (.val d) μ := by
  obtain ⟨h1, h2⟩ := List.getElem?_eq_some_iff.mp h
  show (match at? xs (j : Nat) with | some d => R.ok (Tv.val d) μ | none => .fail) = _
  rw [at_nat h1, h2]
theorem ix_fl {xs : List D} {j : Nat} {d : D} (h : xs[j]? = some d) (μ : Hq) : opIx (.val (.fl xs)) (vi (j : Nat)) μ = .ok (.val d) μ := by
  obtain ⟨h1, h2⟩ := List.getElem?_eq_some_iff.mp h
  show (match at? xs (j : Nat) with | some d => R.ok (Tv.val d) μ | none => .fail) = _
  rw [at_nat h1, h2]
theorem ix_new {xs : List D} {j : Nat} {d : D} (h : xs[j]? = some d) (μ : Hq) : opIx (.new (.lst xs)) (vi (j : Nat)) μ = .ok (.val d) μ := by
  obtain ⟨h1, h2⟩ := List.getElem?_eq_some_iff.mp h
  show (match at? xs (j : Nat) with | some d => R.ok (Tv.val d) μ | none => .fail) = _
  rw [at_nat h1, h2]
theorem lt1 {i j : Int} (h : i < j) (μ : Hq) : opLt (vi i) (vi j) μ = .ok (vb true) μ := by
  show R.ok (vb (decide (i < j))) μ = _
  rw [decide_eq_true h]
theorem lt0 {i j : Int} (h : ¬ i < j) (μ : Hq) : opLt (vi i) (vi j) μ = .ok (vb false) μ := by
  show R.ok (vb (decide (i < j))) μ = _
  rw [decide_eq_false h]
theorem gt1 {i j : Int} (h : j < i) (μ : Hq) : opGt (vi i) (vi j) μ = .ok (vb true) μ := lt1 h μ
theorem gt0 {i j : Int} (h : ¬ j < i) (μ : Hq) : opGt (vi i) (vi j) μ = .ok (vb false) μ := lt0 h μ
theorem ge1 {i j : Int} (h : j ≤ i) (μ : Hq) : opGe (vi i) (vi j) μ = .ok (vb true) μ := by
  show R.ok (vb (decide (j ≤ i))) μ = _
  rw [decide_eq_true h]
theorem ge0 {i j : Int} (h : ¬ j ≤ i) (μ : Hq) : opGe (vi i) (vi j) μ = .ok (vb false) μ := by
  show R.ok (vb (decide (j ≤ i))) μ = _
  rw [decide_eq_false h]
theorem le1 {i j : Int} (h : i ≤ j) (μ : Hq) : opLe (vi i) (vi j) μ = .ok (vb true) μ := ge1 h μ
theorem le0 {i j : Int} (h : ¬ i ≤ j) (μ : Hq) : opLe (vi i) (vi j) μ = .ok (vb false) μ := ge0 h μ
theorem eqi (i j : Int) (μ : Hq) : opEq (vi i) (vi j) μ = .ok (vb (decide (i = j))) μ := rfl
theorem eq1 {i j : Int} (h : i = j) (μ : Hq) : opEq (vi i) (vi j) μ = .ok (vb true) μ := by rw [eqi, decide_eq_true h]
theorem eq0 {i j : Int} (h : i ≠ j) (μ : Hq) : opEq (vi i) (vi j) μ = .ok (vb false) μ := by rw [eqi, decide_eq_false h]
theorem lt_int (i j : Int) (μ : Hq) : opLt (vi i) (vi j) μ = .ok (vb (decide (i < j))) μ := rfl
theorem range1 {a : EF} {ρ : Ev} {μ μ1 : Hq} {n : Nat} (h : a ρ μ = .ok (vi (n : Nat)) μ1) (hn : n < 1000000000) : iRange1 a ρ μ = .ok ⟨(List.range n).map fun k => D.int (k : Nat), none⟩ μ1 := by
  unfold iRange1
  rw [h, bind_ok]
  show (if ((n : Nat) : Int) < 1000000000 ∧ -1000000000 < ((n : Nat) : Int) then R.ok (Itm.mk (rangeD 0 ((n : Nat) : Int).toNat) none) μ1 else .fail) = _
  rw [if_pos ⟨by omega, by omega⟩, Int.toNat_natCast, rangeD_map]
  simp
theorem cell_ok (ns : List Int) (j : Nat) : ∃ ρ1 μ1, cellB [some (.fl (ns.map .int)), some (.int (j : Nat))] [] = .ok (.rt (vi (cellv ns j))) ρ1 μ1 := by
  refine ⟨[some (.fl (ns.map .int)), some (.int (j : Nat))], [], ?_⟩
  unfold cellB
  have hl : e1 opLen (eVar 0) [some (.fl (ns.map D.int)), some (.int (j : Nat))] [] = .ok (vi ns.length) [] := by
    show R.ok (vi (ns.map D.int).length) [] = _
    rw [List.length_map]
  by_cases h : j < ns.length
  · refine sr_rt (sif1 (tb (p2 rfl hl ?_)) (pret ?_))
    · exact lt1 (by omega) []
    · have hx : (ns.map D.int)[j]? = some (.int (ns.getD j 0)) := by simp [h, List.getD_eq_getElem?_getD]
      refine p2 (p1 (p1 (p2 rfl rfl (ix_fl hx [])) rfl) rfl) rfl ?_
      show R.ok (vi ((if ns.getD j 0 < 0 then -ns.getD j 0 else ns.getD j 0) % 1000000007)) [] = _
      unfold cellv
      rw [if_pos h]
  · refine pskip (tb (p2 rfl hl ?_)) (pret ?_)
    · exact lt0 (by omega) []
    · unfold cellv; rw [if_neg h]; rfl
theorem rich_ok (a b : Int) : ∃ ρ1 μ1, richB [some (.int a), some (.int b), none] [] = .ok (.rt (vi (richv a b))) ρ1 μ1 := by
  refine ⟨[some (.int a), some (.int b), some (.int ((a * 48271 + b * 69621 + 17) % 2147483647))], [], ?_⟩
  unfold richB
  refine pset (v := .int ((a * 48271 + b * 69621 + 17) % 2147483647)) (p2 (p1 (p2 (p2 (p2 rfl rfl (mul_small' (by decide) _)) (p2 rfl rfl (mul_small' (by decide) _)) rfl) rfl rfl) rfl) rfl rfl) (pret (p2 (p2 rfl rfl (mul_small' (by decide) _)) (p2 (p1 (p2 (p2 rfl rfl (mul_small' (by decide) _)) rfl rfl) rfl) rfl rfl) rfl))
/-- slots are told by a predicate -/
theorem fo_pred {α : Type} {g : GF} {b : SF} {μ : Hq} (I : α → D) (P : Ev → Prop) (xs : List α) (h : ∀ x ∈ xs, ∀ ρ, P ρ → ∃ ρ1 ρ2, g (I x) ρ μ = .ok ρ1 μ ∧ b ρ1 μ = .ok .nx ρ2 μ ∧ P ρ2) :
    ∀ ρ, P ρ → ∃ ρ2, foGo g b (xs.map I) ρ μ = .ok .nx ρ2 μ ∧ P ρ2 := by
  induction xs with
  | nil => intro ρ hp; exact ⟨ρ, rfl, hp⟩
  | cons x xs ih =>
    intro ρ hp
    obtain ⟨ρ1, ρ2, h1, h2, h3⟩ := h x List.mem_cons_self ρ hp
    obtain ⟨ρ3, h4, h5⟩ := ih (fun y hy => h y (List.mem_cons_of_mem _ hy)) ρ2 h3
    refine ⟨ρ3, ?_, h5⟩
    rw [List.map_cons]
    show ((g (I x) ρ μ).toS ρ fun ρ1 μ1 => _) = _
    rw [h1, toS_ok, h2]
    exact h4
/-- a row made by tuple([e for v in range(n)]) -/
theorem tup_range {own : List Nat} {v : Nat} {a e : EF} {ρ : Ev} {μ : Hq} {n : Nat} (F : Nat → D) (h : a ρ μ = .ok (vi (n : Nat)) μ) (hn : n < 1000000) (he : ∀ k, k < n → e ((Mi.wip ρ own).set v (some (.int (k : Nat)))) μ = .ok (.val (F k)) μ) :
    e1 opTuple (eLc own (gN v) (iRange1 a) tYs e) ρ μ = .ok (.val (.tup ((List.range n).map F))) μ := by
  refine p1 (qlc0 (range1 h (by omega)) (lcGo_of (fun k : Nat => D.int (k : Nat)) F (List.range n) fun k hk => ⟨_, rfl, he k (List.mem_range.mp hk)⟩) (by simp; omega)) rfl
/-- any([e for v in range(n)]), none of them -/
theorem any_range {own : List Nat} {v : Nat} {a e : EF} {ρ : Ev} {μ : Hq} {n : Nat} (h : a ρ μ = .ok (vi (n : Nat)) μ) (hn : n < 1000000) (he : ∀ k, k < n → e ((Mi.wip ρ own).set v (some (.int (k : Nat)))) μ = .ok (vb false) μ) :
    e1 opAny (eLc own (gN v) (iRange1 a) tYs e) ρ μ = .ok (vb false) μ := by
  refine p1 (qlc0 (ds := (List.range n).map fun k => D.bl false) (range1 h (by omega)) (lcGo_of (fun k : Nat => D.int (k : Nat)) (fun _ => D.bl false) (List.range n) fun k hk => ⟨_, rfl, he k (List.mem_range.mp hk)⟩) (by simp; omega)) ?_
  show (match bls ((List.range n).map fun k => D.bl false) with | some bs => R.ok (vb (bs.any id)) μ | none => .fail) = _
  rw [bls_of (fun _ => false) (List.range n)]
  show R.ok (vb (((List.range n).map fun _ => false).any id)) μ = _
  rw [show ((List.range n).map fun _ => false).any id = false by simp]
/-- all([e for v in xs]), all of them -/
theorem all_of {α : Type} {own : List Nat} {g : GF} {i : IF} {e : EF} {ρ : Ev} {μ : Hq} (I : α → D) (xs : List α) (hi : i ρ μ = .ok ⟨xs.map I, none⟩ μ) (hn : xs.length ≤ 1000000) (he : ∀ x ∈ xs, ∃ ρ1, g (I x) (Mi.wip ρ own) μ = .ok ρ1 μ ∧ e ρ1 μ = .ok (vb true) μ) :
    e1 opAll (eLc own g i tYs e) ρ μ = .ok (vb true) μ := by
  refine p1 (qlc0 (ds := xs.map fun k => D.bl true) hi (lcGo_of I (fun _ => D.bl true) xs he) (by simpa using hn)) ?_
  show (match bls (xs.map fun k => D.bl true) with | some bs => R.ok (vb (bs.all id)) μ | none => .fail) = _
  rw [bls_of (fun _ => true) xs]
  show R.ok (vb ((xs.map fun _ => true).all id)) μ = _
  rw [show (xs.map fun _ => true).all id = true by simp]
theorem zip_ints : ∀ xs : List Int, zipD (xs.map D.int) (xs.map D.int) = xs.map fun x => D.tup [.int x, .int x]
  | [] => rfl
  | x :: xs => by show D.tup [.int x, .int x] :: zipD (xs.map D.int) (xs.map D.int) = _; rw [zip_ints xs]; rfl
end Mi
end
section
set_option linter.all false
set_option maxRecDepth 100000
set_option maxHeartbeats 1000000
/-! MiR: walks with the small heap; the laws' tape. -/
namespace Mi
open PySem
section
variable {e : EF} {as : AF} {ρ : Ev} {μ μ1 μ2 : Hq} {o : Ob} {ds : List D} {d : D} {i : Nat} {x : Tv} {r : R Tv} {c : TF} {k : Bool} {s t : SF} {q : RS}
theorem qaN (h1 : e ρ μ = .ok (.new o) μ1) (h2 : as ρ (μ1 ++ [o]) = .ok ds μ2) : aCons e as ρ μ = .ok (.ref μ1.length :: ds) μ2 := by
  unfold aCons; rw [h1, bind_ok]
  show ((as ρ (μ1 ++ [o])).bind fun ds μ2 => .ok (.ref μ1.length :: ds) μ2) = _
  rw [h2]; rfl
theorem qv (h : ρ[i]? = some (some d)) : eVar i ρ μ = .ok (.val d) μ := by unfold eVar; rw [h]
theorem qC : eC d ρ μ = .ok (.val d) μ := rfl
theorem psif (h1 : c ρ μ = .ok k μ1) (h2 : (if k then s ρ μ1 else t ρ μ1) = q) : sIf c s t ρ μ = q := by unfold sIf; rw [h1, toS_ok]; exact h2
end
theorem mulL {i j : Int} (h : j.natAbs < 18446744073709551616) (μ : Hq) : opMul (.val (.int i)) (.val (.int j)) μ = .ok (vi (i * j)) μ := mul_small' h μ
theorem mulR {i j : Int} (h : i.natAbs < 18446744073709551616) (μ : Hq) : opMul (.val (.int i)) (.val (.int j)) μ = .ok (vi (i * j)) μ := mul_small h μ
/-- a walk: what stands in slots and small heap is told by the items taken -/
theorem fo_st {α : Type} {g : GF} {b : SF} (I : α → D) (P : List α → Ev → Hq → Prop) (all : List α) (h : ∀ pre x post, all = pre ++ x :: post → ∀ ρ μ, P pre ρ μ → ∃ ρ1 μ1 ρ2 μ2, g (I x) ρ μ = .ok ρ1 μ1 ∧ b ρ1 μ1 = .ok .nx ρ2 μ2 ∧ P (pre ++ [x]) ρ2 μ2) :
    ∀ (xs pre : List α), all = pre ++ xs → ∀ ρ μ, P pre ρ μ → ∃ ρ2 μ2, foGo g b (xs.map I) ρ μ = .ok .nx ρ2 μ2 ∧ P all ρ2 μ2
  | [], pre, e, ρ, μ, hp => ⟨ρ, μ, rfl, by rw [e, List.append_nil]; exact hp⟩
  | x :: xs, pre, e, ρ, μ, hp => by
    obtain ⟨ρ1, μ1, ρ2, μ2, h1, h2, h3⟩ := h pre x xs e ρ μ hp
    obtain ⟨ρ3, μ3, h4, h5⟩ := fo_st I P all h xs (pre ++ [x]) (by rw [e]; simp) ρ2 μ2 h3
    refine ⟨ρ3, μ3, ?_, h5⟩
    rw [List.map_cons]
    show ((g (I x) ρ μ).toS ρ fun ρ1 μ1 => _) = _
    rw [h1, toS_ok, h2]
    exact h4
/-- a comprehension whose turns change the small heap -/
theorem lc_st {α : Type} {g : GF} {e : EF} {ρ : Ev} (I : α → D) (P : List α → List D → Hq → Prop) (all : List α) (h : ∀ pre x post, all = pre ++ x :: post → ∀ ds μ, P pre ds μ → ∃ ρ1 d μ1, g (I x) ρ μ = .ok ρ1 μ ∧ e ρ1 μ = .ok (.val d) μ1 ∧ P (pre ++ [x]) (ds ++ [d]) μ1) :
    ∀ (xs pre : List α), all = pre ++ xs → ∀ ds μ, P pre ds μ → ∃ es μ2, lcGo g tYs e ρ (xs.map I) μ = .ok es μ2 ∧ P all (ds ++ es) μ2
  | [], pre, e, ds, μ, hp => ⟨[], μ, rfl, by rw [e, List.append_nil, List.append_nil]; exact hp⟩
  | x :: xs, pre, e, ds, μ, hp => by
    obtain ⟨ρ1, d, μ1, h1, h2, h3⟩ := h pre x xs e ds μ hp
    obtain ⟨es, μ3, h4, h5⟩ := lc_st I P all h xs (pre ++ [x]) (by rw [e]; simp) (ds ++ [d]) μ1 h3
    refine ⟨d :: es, μ3, ?_, by rw [List.append_assoc] at h5; exact h5⟩
    rw [List.map_cons]
    unfold lcGo
    rw [h1]
    simp only [tYs, h2, mat, h4]
/-! ### the laws' tape -/
/-- the cells stand at 0, the tape at 1 -/
def TP (cs : List Int) (s : Int) (rest : Hq) : Hq := .lst (cs.map .int) :: .lst [.ref 0, .int s] :: rest
def tapeB : SF := (sCons (sAsg (gN 1) (eC (.int 7))) (sCons (sFor (gN 2) (iEA (eVar 0)) (sCons (sAsg (gN 1) (e2 opMod (e1 opInt (e2 opAdd (e2 opMul (eVar 1) (eC (.int 31))) (eVar 2))) (eC (.int 1000003)))) sNil)) (sCons (sRet (eLst (aCons (eLc [2] (gN 2) (iEA (eVar 0)) tYs (e1 opAbs (e1 opInt (eVar 2)))) (aCons (e2 opAdd (eVar 1) (eC (.int 1))) aNil)))) sNil)))
def drawB : SF := (sCons (sAsg (gN 2) (e2 opIxA (eVar 0) (eC (.int 0)))) (sCons (sWh (tAnd (tV (e2 opGt (e1 opLen (eVar 2)) (eC (.int 0)))) (tV (e2 opEq (e2 opIxA (eVar 2) (eC (.int 0))) (eC (.int 0))))) (sCons (sE (ePopAt (eVar 2) (eC (.int 0)))) sNil)) (sCons (sIf (tV (e2 opGt (e1 opLen (eVar 2)) (eC (.int 0)))) (sCons (sAsg (gN 3) (e2 opIxA (eVar 2) (eC (.int 0)))) (sCons (sAsg (gIx (eVar 2) (eC (.int 0))) (e2 opDiv (eVar 3) (eVar 1))) (sCons (sRet (e2 opMod (e1 opInt (eVar 3)) (eVar 1))) sNil))) sNil) (sCons (sAsg (gIx (eVar 0) (eC (.int 1))) (e2 opMod (e1 opInt (e2 opAdd (e2 opMul (e2 opIxA (eVar 0) (eC (.int 1))) (eC (.int 48271))) (eC (.int 12345)))) (eC (.int 2147483647)))) (sCons (sRet (e2 opMod (e1 opInt (e2 opDiv (e2 opIxA (eVar 0) (eC (.int 1))) (eC (.int 64)))) (eVar 1))) sNil)))))
/-- taking noughts away -/
theorem draw_while (m s : Int) (rest : Hq) (x3 : Option D) : ∀ (cs : List Int) (f : Nat), cs.length < f →
    ∃ cs', cs'.length ≤ cs.length ∧ whGo (tAnd (tV (e2 opGt (e1 opLen (eVar 2)) (eC (.int 0)))) (tV (e2 opEq (e2 opIxA (eVar 2) (eC (.int 0))) (eC (.int 0))))) (sCons (sE (ePopAt (eVar 2) (eC (.int 0)))) sNil) f [some (.ref 1), some (.int m), some (.ref 0), x3] (TP cs s rest) = .ok .nx [some (.ref 1), some (.int m), some (.ref 0), x3] (TP cs' s rest)
  | [], f + 1, _ => ⟨[], Nat.le_refl _, rfl⟩
  | c :: cs, f + 1, h => by
    by_cases hc : c = 0
    · subst hc
      obtain ⟨cs', h1, h2⟩ := draw_while m s rest x3 cs f (by simp at h; omega)
      refine ⟨cs', by simp; omega, ?_⟩
      have ht : (tAnd (tV (e2 opGt (e1 opLen (eVar 2)) (eC (.int 0)))) (tV (e2 opEq (e2 opIxA (eVar 2) (eC (.int 0))) (eC (.int 0))))) [some (.ref 1), some (.int m), some (.ref 0), x3] (TP (0 :: cs) s rest) = .ok true (TP (0 :: cs) s rest) := by
        refine tand1 (μ1 := TP (0 :: cs) s rest) (tb (q2 (q1 rfl rfl) rfl ?_)) (tb (q2 (x := vi 0) (q2 rfl rfl ?_) rfl rfl))
        · exact gt1 (by simp <;> omega) _
        · show (match at? ((0 :: cs).map D.int) 0 with | some d => R.ok (Tv.val d) _ | none => .fail) = R.ok (vi 0) _
          unfold at? ixq
          rw [if_pos (Int.le_refl _), if_pos (by simp <;> omega)]; try rfl
      have hb : (sCons (sE (ePopAt (eVar 2) (eC (.int 0)))) sNil) [some (.ref 1), some (.int m), some (.ref 0), x3] (TP (0 :: cs) s rest) = .ok .nx [some (.ref 1), some (.int m), some (.ref 0), x3] (TP cs s rest) := by
        refine sc (sexp (?_ : _ = R.ok (.val (.int 0)) (TP cs s rest))) rfl
        show (match ixq ((0 :: cs).map D.int).length 0 with | some j => (match ((0 :: cs).map D.int)[j]? with | some d => R.ok (Tv.val d) ((TP (0 :: cs) s rest).set 0 (.lst (((0 :: cs).map D.int).eraseIdx j))) | none => .fail) | none => .fail) = _
        unfold ixq
        rw [if_pos (Int.le_refl _), if_pos (by simp <;> omega)]; try rfl
      show (((tAnd (tV (e2 opGt (e1 opLen (eVar 2)) (eC (.int 0)))) (tV (e2 opEq (e2 opIxA (eVar 2) (eC (.int 0))) (eC (.int 0))))) [some (.ref 1), some (.int m), some (.ref 0), x3] (TP (0 :: cs) s rest)).toS _ fun k μ1 => _) = _
      rw [ht, toS_ok, if_pos rfl, hb]
      exact h2
    · refine ⟨c :: cs, Nat.le_refl _, ?_⟩
      have ht : (tAnd (tV (e2 opGt (e1 opLen (eVar 2)) (eC (.int 0)))) (tV (e2 opEq (e2 opIxA (eVar 2) (eC (.int 0))) (eC (.int 0))))) [some (.ref 1), some (.int m), some (.ref 0), x3] (TP (c :: cs) s rest) = .ok false (TP (c :: cs) s rest) := by
        refine tand1 (μ1 := TP (c :: cs) s rest) (tb (q2 (q1 rfl rfl) rfl ?_)) (tb (q2 (x := vi c) (q2 rfl rfl ?_) rfl (eq0 hc _)))
        · exact gt1 (by simp <;> omega) _
        · show (match at? ((c :: cs).map D.int) 0 with | some d => R.ok (Tv.val d) _ | none => .fail) = R.ok (vi c) _
          unfold at? ixq
          rw [if_pos (Int.le_refl _), if_pos (by simp <;> omega)]; try rfl
      show (((tAnd (tV (e2 opGt (e1 opLen (eVar 2)) (eC (.int 0)))) (tV (e2 opEq (e2 opIxA (eVar 2) (eC (.int 0))) (eC (.int 0))))) [some (.ref 1), some (.int m), some (.ref 0), x3] (TP (c :: cs) s rest)).toS _ fun k μ1 => _) = _
      rw [ht, toS_ok]; rfl
theorem draw_body (cs : List Int) (s m : Int) (rest : Hq) (hc : cs.length ≤ 63) (hm : 0 < m) (hm2 : m < 1073741824) :
    ∃ v cs' s' ρ, 0 ≤ v ∧ v < m ∧ cs'.length ≤ 63 ∧ drawB [some (.ref 1), some (.int m), none, none] (TP cs s rest) = .ok (.rt (vi v)) ρ (TP cs' s' rest) := by
  obtain ⟨cs', h1, h2⟩ := draw_while m s rest none cs big (by unfold big; omega)
  cases cs' with
  | nil =>
    let S := (s * 48271 + 12345) % 2147483647
    refine ⟨S / 64 % m, [], S, [some (.ref 1), some (.int m), some (.ref 0), none], Int.emod_nonneg _ (by omega), Int.emod_lt_of_pos _ hm, by simp, ?_⟩
    unfold drawB
    refine sc (sasgN (v := .ref 0) (q2 rfl rfl rfl)) (sc h2 (sc (sif0 (tb (q2 (q1 rfl rfl) rfl rfl)) rfl) (sc (sasg (v := .int S) (μ1 := TP [] s rest) (q2 (q1 (q2 (q2 (x := vi s) (q2 rfl rfl rfl) rfl (mul_small' (by decide) _)) rfl rfl) rfl) rfl rfl) (?_ : _ = R.ok _ (TP [] S rest))) (sr_rt (sret (q2 (q1 (q2 (x := vi S) (q2 rfl rfl rfl) rfl rfl) rfl) rfl (modP hm _)))))))
    rfl
  | cons c r =>
    refine ⟨c % m, c / m :: r, s, [some (.ref 1), some (.int m), some (.ref 0), some (.int c)], Int.emod_nonneg _ (by omega), Int.emod_lt_of_pos _ hm, by simp at h1 ⊢; omega, ?_⟩
    unfold drawB
    refine sc (sasgN (v := .ref 0) (q2 rfl rfl rfl)) (sc h2 (sr_rt (sif1 (tb (q2 (q1 rfl rfl) rfl (gt1 ?_ _))) (sc (sasgN (v := .int c) (q2 rfl rfl ?_)) (sc (sasg (v := .int (c / m)) (μ1 := TP (c :: r) s rest) (q2 rfl rfl (divP hm hm2 _)) (?_ : _ = R.ok _ (TP (c / m :: r) s rest))) (sr_rt (sret (q2 (q1 rfl rfl) rfl (modP hm _)))))))))
    · simp; try omega
    · show (match at? ((c :: r).map D.int) 0 with | some d => R.ok (Tv.val d) _ | none => .fail) = R.ok (vi c) _
      unfold at? ixq
      rw [if_pos (Int.le_refl _), if_pos (by simp <;> omega)]; try rfl
    · show (match ixq ((c :: r).map D.int).length 0 with | some j => R.ok _ ((TP (c :: r) s rest).set 0 (.lst (((c :: r).map D.int).set j (.int (c / m))))) | none => .fail) = _
      unfold ixq
      rw [if_pos (Int.le_refl _), if_pos (by simp <;> omega)]; try rfl
/-- a draw -/
theorem draw_ok {tab : List FD} {i : Nat} (h : tab[i]? = some ⟨2, 4, fun _ => drawB⟩) (n : Nat) (cs : List Int) (s m : Int) (rest : Hq) (hc : cs.length ≤ 63) (hm : 0 < m) (hm2 : m < 1073741824) :
    ∃ v cs' s', 0 ≤ v ∧ v < m ∧ cs'.length ≤ 63 ∧ callF tab (n + 1) i [.ref 1, .int m] (TP cs s rest) = .ok (vi v) (TP cs' s' rest) := by
  obtain ⟨v, cs', s', ρ, h1, h2, h3, h4⟩ := draw_body cs s m rest hc hm hm2
  refine ⟨v, cs', s', h1, h2, h3, ?_⟩
  show (match tab[i]? with | some fd => _ | none => _) = _
  rw [h]
  show endV (drawB [some (.ref 1), some (.int m), none, none] (TP cs s rest)) = _
  rw [h4]; rfl
theorem nums_pure : ∀ xs : List Int, D.pures (xs.map .int) = true := pures_ints
/-- the tape -/
theorem tape_ok {tab : List FD} {i : Nat} (h : tab[i]? = some ⟨1, 3, fun _ => tapeB⟩) (n : Nat) (ns : List Int) (hl : ns.length ≤ 63) :
    ∃ (cs : List Int) (s : Int), cs.length ≤ 63 ∧ callF tab (n + 1) i [.fl (ns.map .int)] [] = .ok (.new (.lst [.ref 0, .int s])) [.lst (cs.map .int)] := by
  let E : List Int → Ev := fun pre => [some (.fl (ns.map .int)), some (.int (pre.foldl (fun a x => (a * 31 + x) % 1000003) 7)), if pre = [] then none else some (.int (pre.getLastD 0))]
  have hf : foGo (gN 2) (sCons (sAsg (gN 1) (e2 opMod (e1 opInt (e2 opAdd (e2 opMul (eVar 1) (eC (.int 31))) (eVar 2))) (eC (.int 1000003)))) sNil) (ns.map D.int) (E []) [] = .ok .nx (E ns) [] := by
    refine fo_mem D.int E ns (fun pre x post e => ?_) ns [] rfl
    refine ⟨[some (.fl (ns.map .int)), some (.int (pre.foldl (fun a x => (a * 31 + x) % 1000003) 7)), some (.int x)], rfl, ?_⟩
    have hv : e2 opMod (e1 opInt (e2 opAdd (e2 opMul (eVar 1) (eC (.int 31))) (eVar 2))) (eC (.int 1000003)) [some (.fl (ns.map .int)), some (.int (pre.foldl (fun a x => (a * 31 + x) % 1000003) 7)), some (.int x)] [] = .ok (vi ((pre.foldl (fun a x => (a * 31 + x) % 1000003) 7 * 31 + x) % 1000003)) [] := q2 (x := vi (pre.foldl (fun a x => (a * 31 + x) % 1000003) 7 * 31 + x)) (y := vi 1000003) (μ1 := []) (μ2 := []) (q1 (q2 (x := vi (pre.foldl (fun a x => (a * 31 + x) % 1000003) 7 * 31)) (y := vi x) (μ1 := []) (q2 (x := vi (pre.foldl (fun a x => (a * 31 + x) % 1000003) 7)) (y := vi 31) (μ1 := []) rfl rfl (mulL (by decide) _)) rfl rfl) rfl) rfl rfl
    refine (sc (sasgN hv) rfl).trans ?_
    show RS.ok .nx _ _ = RS.ok .nx (E (pre ++ [x])) _
    simp [E, List.foldl_append]
  let cs := ns.map fun x => if x < 0 then -x else x
  let s := ns.foldl (fun a x => (a * 31 + x) % 1000003) 7
  refine ⟨cs, s + 1, by simpa [cs] using hl, ?_⟩
  have hb : ∃ ρ', tapeB [some (.fl (ns.map .int)), none, none] [] = .ok (.rt (.new (.lst [.ref 0, .int (s + 1)]))) ρ' [.lst (cs.map .int)] := by
    refine ⟨E ns, ?_⟩
    unfold tapeB
    refine sc (sasgN rfl) (sc (sfor0 (xs := ns.map .int) rfl hf) (sr_rt (sret (qlst (qaN (μ1 := []) (o := .lst (cs.map .int)) (qlc0 (xs := ns.map .int) rfl ?_ (by simp; omega)) (qa (v := .int (s + 1)) rfl qn)) (by simp)))))
    have := lcGo_of (g := gN 2) (e := e1 opAbs (e1 opInt (eVar 2))) (ρ := Mi.wip (E ns) [2]) (μ := []) (fun x : Int => D.int x) (fun x : Int => D.int (if x < 0 then -x else x)) ns fun x hx => ⟨_, rfl, rfl⟩
    rw [show cs.map D.int = ns.map fun x : Int => D.int (if x < 0 then -x else x) by simp [cs]]
    exact this
  obtain ⟨ρ', hb⟩ := hb
  show (match tab[i]? with | some fd => _ | none => _) = _
  rw [h]
  have hp : D.pures [.fl (ns.map .int)] = true := by
    show (D.pures (ns.map .int) && true) = true
    rw [pures_ints]; rfl
  show (if D.pures [.fl (ns.map .int)] then (alone [] (endV (tapeB [some (.fl (ns.map .int)), none, none] []))).orE (endV (tapeB [some (.fl (ns.map .int)), none, none] [])) else _) = _
  rw [if_pos hp, hb]
  rfl
end Mi
end
section
set_option linter.all false
set_option maxRecDepth 100000
set_option maxHeartbeats 4000000
open PySem Mi
namespace L_k40
def b_is_integer (cf : CF) : SF := (sCons (sRet (eAnd (e1 (opIsi .int) (eVar 0)) (eNot (e1 (opIsi .bool) (eVar 0))))) sNil)
def b_check_integers (cf : CF) : SF := (sCons (sIf (tOr (tNot (tV (e1 (opIsi .tuple) (eVar 0)))) (tNot (tV (e1 opAll (eLc [1] (gN 1) (iEA (eVar 0)) tYs (eCall cf 0 (aCons (eVar 1) aNil))))))) (sCons (sRz 1) sNil) sNil) sNil)
def b_minus_continuant (cf : CF) : SF := (sCons (sE (eCall cf 1 (aCons (eVar 0) aNil))) (sCons (sAsg (gT (gsCons (gN 1) (gsCons (gN 2) gsNil))) (eTup (aCons (eC (.int 0)) (aCons (eC (.int 1)) aNil)))) (sCons (sFor (gN 3) (iEA (eVar 0)) (sCons (sPar 1 2 (aCons (eVar 2) (aCons (e2 opSub (e2 opMul (eVar 3) (eVar 2)) (eVar 1)) aNil))) sNil)) (sCons (sRet (eVar 2)) sNil))))
def b_plus_continuant (cf : CF) : SF := (sCons (sE (eCall cf 1 (aCons (eVar 0) aNil))) (sCons (sAsg (gT (gsCons (gN 1) (gsCons (gN 2) gsNil))) (eTup (aCons (eC (.int 0)) (aCons (eC (.int 1)) aNil)))) (sCons (sFor (gN 3) (iEA (eVar 0)) (sCons (sPar 1 2 (aCons (eVar 2) (aCons (e2 opAdd (e2 opMul (eVar 3) (eVar 2)) (eVar 1)) aNil))) sNil)) (sCons (sRet (eVar 2)) sNil))))
def b_times (cf : CF) : SF := (sCons (sAsg (gT (gsCons (gN 2) (gsCons (gN 3) (gsCons (gN 4) (gsCons (gN 5) gsNil))))) (eVar 0)) (sCons (sAsg (gT (gsCons (gN 6) (gsCons (gN 7) (gsCons (gN 8) (gsCons (gN 9) gsNil))))) (eVar 1)) (sCons (sRet (eTup (aCons (e2 opAdd (e2 opMul (eVar 2) (eVar 6)) (e2 opMul (eVar 3) (eVar 8))) (aCons (e2 opAdd (e2 opMul (eVar 2) (eVar 7)) (e2 opMul (eVar 3) (eVar 9))) (aCons (e2 opAdd (e2 opMul (eVar 4) (eVar 6)) (e2 opMul (eVar 5) (eVar 8))) (aCons (e2 opAdd (e2 opMul (eVar 4) (eVar 7)) (e2 opMul (eVar 5) (eVar 9))) aNil)))))) sNil)))
def b_matrix_of (cf : CF) : SF := (sCons (sE (eCall cf 1 (aCons (eVar 0) aNil))) (sCons (sAsg (gN 1) (eTup (aCons (eC (.int 1)) (aCons (eC (.int 0)) (aCons (eC (.int 0)) (aCons (eC (.int 1)) aNil)))))) (sCons (sFor (gN 2) (iEA (eVar 0)) (sCons (sAsg (gN 1) (eCall cf 4 (aCons (eVar 1) (aCons (eTup (aCons (eVar 2) (aCons (e1 opNeg (eC (.int 1))) (aCons (eC (.int 1)) (aCons (eC (.int 0)) aNil))))) aNil)))) sNil)) (sCons (sRet (eVar 1)) sNil))))
def b_plus_matrix (cf : CF) : SF := (sCons (sE (eCall cf 1 (aCons (eVar 0) aNil))) (sCons (sAsg (gN 1) (eTup (aCons (eC (.int 1)) (aCons (eC (.int 0)) (aCons (eC (.int 0)) (aCons (eC (.int 1)) aNil)))))) (sCons (sFor (gN 2) (iEA (eVar 0)) (sCons (sAsg (gN 1) (eCall cf 4 (aCons (eVar 1) (aCons (eTup (aCons (eVar 2) (aCons (eC (.int 1)) (aCons (eC (.int 1)) (aCons (eC (.int 0)) aNil))))) aNil)))) sNil)) (sCons (sRet (eVar 1)) sNil))))
def b__law_tape (cf : CF) : SF := (sCons (sAsg (gN 1) (eC (.int 7))) (sCons (sFor (gN 2) (iEA (eVar 0)) (sCons (sAsg (gN 1) (e2 opMod (e1 opInt (e2 opAdd (e2 opMul (eVar 1) (eC (.int 31))) (eVar 2))) (eC (.int 1000003)))) sNil)) (sCons (sRet (eLst (aCons (eLc [2] (gN 2) (iEA (eVar 0)) tYs (e1 opAbs (e1 opInt (eVar 2)))) (aCons (e2 opAdd (eVar 1) (eC (.int 1))) aNil)))) sNil)))
def b__law_draw (cf : CF) : SF := (sCons (sAsg (gN 2) (e2 opIxA (eVar 0) (eC (.int 0)))) (sCons (sWh (tAnd (tV (e2 opGt (e1 opLen (eVar 2)) (eC (.int 0)))) (tV (e2 opEq (e2 opIxA (eVar 2) (eC (.int 0))) (eC (.int 0))))) (sCons (sE (ePopAt (eVar 2) (eC (.int 0)))) sNil)) (sCons (sIf (tV (e2 opGt (e1 opLen (eVar 2)) (eC (.int 0)))) (sCons (sAsg (gN 3) (e2 opIxA (eVar 2) (eC (.int 0)))) (sCons (sAsg (gIx (eVar 2) (eC (.int 0))) (e2 opDiv (eVar 3) (eVar 1))) (sCons (sRet (e2 opMod (e1 opInt (eVar 3)) (eVar 1))) sNil))) sNil) (sCons (sAsg (gIx (eVar 0) (eC (.int 1))) (e2 opMod (e1 opInt (e2 opAdd (e2 opMul (e2 opIxA (eVar 0) (eC (.int 1))) (eC (.int 48271))) (eC (.int 12345)))) (eC (.int 2147483647)))) (sCons (sRet (e2 opMod (e1 opInt (e2 opDiv (e2 opIxA (eVar 0) (eC (.int 1))) (eC (.int 64)))) (eVar 1))) sNil)))))
def b__law_pick (cf : CF) : SF := (sCons (sRet (e2 opIxA (eVar 1) (eCall cf 8 (aCons (eVar 0) (aCons (e1 opLen (eVar 1)) aNil))))) sNil)
def b__law_same (cf : CF) : SF := (sCons (sIf (tOr (tV (e1 (opIsi .tuple) (eVar 0))) (tV (e1 (opIsi .tuple) (eVar 1)))) (sCons (sIf (tOr (tNot (tV (e1 (opIsi .tuple) (eVar 0)))) (tOr (tNot (tV (e1 (opIsi .tuple) (eVar 1)))) (tV (e2 opNe (e1 opLen (eVar 0)) (e1 opLen (eVar 1)))))) (sCons (sRet (eC (.bl false))) sNil) sNil) (sCons (sRet (e1 opAll (eLc [2] (gN 2) (iRange1 (e1 opLen (eVar 0))) tYs (eCall cf 10 (aCons (e2 opIxA (eVar 0) (eVar 2)) (aCons (e2 opIxA (eVar 1) (eVar 2)) aNil)))))) sNil)) sNil) (sCons (sIf (tOr (tV (e2 opNe (e1 (opIsi .str) (eVar 0)) (e1 (opIsi .str) (eVar 1)))) (tV (e2 opNe (e1 (opIsi .int) (eVar 0)) (e1 (opIsi .int) (eVar 1))))) (sCons (sRet (eC (.bl false))) sNil) sNil) (sCons (sRet (e2 opEq (eVar 0) (eVar 1))) sNil)))
def b__law_ways (cf : CF) : SF := (sCons (sAsg (gN 1) (eLst (aCons (eTup aNil) aNil))) (sCons (sAsg (gN 2) (eLst (aCons (eLst (aCons (eTup aNil) aNil)) (aCons (eLst (aCons (eTup (aCons (eC (.int 0)) aNil)) aNil)) aNil)))) (sCons (sFor (gN 3) (iRange2 (eC (.int 2)) (e2 opAdd (eVar 0) (eC (.int 1)))) (sCons (sE (eApp (eVar 2) (e2 opAdd (eLc [4] (gN 4) (iEA (e2 opIxA (eVar 2) (e2 opSub (eVar 3) (eC (.int 1))))) tYs (e2 opAdd (eVar 4) (eTup (aCons (e2 opSub (eVar 3) (eC (.int 1))) aNil)))) (e2 opIxA (eVar 2) (e2 opSub (eVar 3) (eC (.int 2))))))) sNil)) (sCons (sRet (eIf (tV (e2 opGt (eVar 0) (eC (.int 0)))) (e2 opIxA (eVar 2) (eVar 0)) (eVar 1))) sNil))))
def b__law_continuant (cf : CF) : SF := (sCons (sAsg (gN 2) (eC (.int 0))) (sCons (sFor (gN 3) (iEA (eCall cf 11 (aCons (e1 opLen (eVar 0)) aNil))) (sCons (sPar 4 5 (aCons (eC (.int 1)) (aCons (e2 opDiv (e2 opSub (e1 opLen (eVar 0)) (e1 opLen (eVar 3))) (eC (.int 2))) aNil))) (sCons (sFor (gN 6) (iEA (eVar 3)) (sCons (sAsg (gN 4) (e2 opMul (eVar 4) (e2 opIxA (eVar 0) (eVar 6)))) sNil)) (sCons (sAsg (gN 2) (e2 opAdd (eVar 2) (eIf (tOr (tV (e2 opGt (eVar 1) (eC (.int 0)))) (tV (e2 opEq (e2 opAnd1 (eVar 5) (eC (.int 1))) (eC (.int 0))))) (eVar 4) (e1 opNeg (eVar 4))))) sNil)))) (sCons (sRet (eVar 2)) sNil)))
def b__law_times (cf : CF) : SF := (sCons (sRet (eTup (aCons (e2 opAdd (e2 opMul (e2 opIxA (eVar 0) (eC (.int 0))) (e2 opIxA (eVar 1) (eC (.int 0)))) (e2 opMul (e2 opIxA (eVar 0) (eC (.int 1))) (e2 opIxA (eVar 1) (eC (.int 2))))) (aCons (e2 opAdd (e2 opMul (e2 opIxA (eVar 0) (eC (.int 0))) (e2 opIxA (eVar 1) (eC (.int 1)))) (e2 opMul (e2 opIxA (eVar 0) (eC (.int 1))) (e2 opIxA (eVar 1) (eC (.int 3))))) (aCons (e2 opAdd (e2 opMul (e2 opIxA (eVar 0) (eC (.int 2))) (e2 opIxA (eVar 1) (eC (.int 0)))) (e2 opMul (e2 opIxA (eVar 0) (eC (.int 3))) (e2 opIxA (eVar 1) (eC (.int 2))))) (aCons (e2 opAdd (e2 opMul (e2 opIxA (eVar 0) (eC (.int 2))) (e2 opIxA (eVar 1) (eC (.int 1)))) (e2 opMul (e2 opIxA (eVar 0) (eC (.int 3))) (e2 opIxA (eVar 1) (eC (.int 3))))) aNil)))))) sNil)
def b__law_refused (cf : CF) : SF := (sCons (sPar 1 2 (aCons (eCall cf 9 (aCons (eVar 0) (aCons (eLst (aCons (eC .non) (aCons (eC (.int 7)) (aCons (eLst (aCons (eC (.int 1)) (aCons (eC (.int 2)) aNil))) (aCons (eTup (aCons (eC (.int 1)) (aCons (eC .non) aNil))) (aCons (eTup (aCons (eC (.int 1)) (aCons (eC (.bl true)) aNil))) (aCons (eTup (aCons (eC (.str "1")) aNil)) (aCons (eTup (aCons (eTup (aCons (eC (.int 1)) aNil)) aNil)) aNil)))))))) aNil))) (aCons (eC (.int 0)) aNil))) (sCons (sFor (gN 3) (iRange1 (eC (.int 4))) (sCons (sTry (sCons (sIf (tV (e2 opEq (eVar 3) (eC (.int 0)))) (sCons (sE (eCall cf 2 (aCons (eVar 1) aNil))) sNil) (sCons (sIf (tV (e2 opEq (eVar 3) (eC (.int 1)))) (sCons (sE (eCall cf 3 (aCons (eVar 1) aNil))) sNil) (sCons (sIf (tV (e2 opEq (eVar 3) (eC (.int 2)))) (sCons (sE (eCall cf 5 (aCons (eVar 1) aNil))) sNil) (sCons (sE (eCall cf 6 (aCons (eVar 1) aNil))) sNil)) sNil)) sNil)) sNil) [(1, true)] (sCons (sAsg (gN 2) (e2 opAdd (eVar 2) (eC (.int 1)))) sNil)) sNil)) (sCons (sRet (e2 opEq (eVar 2) (eC (.int 4)))) sNil)))
def b_law (cf : CF) : SF := (sCons (sAsg (gN 1) (eCall cf 7 (aCons (eVar 0) aNil))) (sCons (sFor (gN 2) (iRange1 (eC (.int 3))) (sCons (sAsg (gN 3) (e1 opTuple (eLc [9] (gN 9) (iRange1 (eCall cf 8 (aCons (eVar 1) (aCons (eC (.int 8)) aNil)))) tYs (e2 opSub (eCall cf 8 (aCons (eVar 1) (aCons (eC (.int 10)) aNil))) (eC (.int 4)))))) (sCons (sIf (tOr (tNot (tV (eCall cf 10 (aCons (eCall cf 2 (aCons (eVar 3) aNil)) (aCons (eCall cf 12 (aCons (eVar 3) (aCons (e1 opNeg (eC (.int 1))) aNil))) aNil))))) (tNot (tV (eCall cf 10 (aCons (eCall cf 3 (aCons (eVar 3) aNil)) (aCons (eCall cf 12 (aCons (eVar 3) (aCons (eC (.int 1)) aNil))) aNil)))))) (sCons (sRet (eC (.bl false))) sNil) sNil) (sCons (sIf (tOr (tV (e2 opNe (eCall cf 2 (aCons (e1 opRev (eVar 3)) aNil)) (eCall cf 2 (aCons (eVar 3) aNil)))) (tV (e2 opNe (eCall cf 3 (aCons (e1 opRev (eVar 3)) aNil)) (eCall cf 3 (aCons (eVar 3) aNil))))) (sCons (sRet (eC (.bl false))) sNil) sNil) (sCons (sPar 4 5 (aCons (eCall cf 5 (aCons (eVar 3) aNil)) (aCons (eCall cf 6 (aCons (eVar 3) aNil)) aNil))) (sCons (sAsg (gT (gsCons (gN 6) (gsCons (gN 7) gsNil))) (eTup (aCons (eTup (aCons (eC (.int 1)) (aCons (eC (.int 0)) (aCons (eC (.int 0)) (aCons (eC (.int 1)) aNil))))) (aCons (eTup (aCons (eC (.int 1)) (aCons (eC (.int 0)) (aCons (eC (.int 0)) (aCons (eC (.int 1)) aNil))))) aNil)))) (sCons (sFor (gN 8) (iEA (eVar 3)) (sCons (sPar 6 7 (aCons (eCall cf 13 (aCons (eVar 6) (aCons (eTup (aCons (eVar 8) (aCons (e1 opNeg (eC (.int 1))) (aCons (eC (.int 1)) (aCons (eC (.int 0)) aNil))))) aNil))) (aCons (eCall cf 13 (aCons (eVar 7) (aCons (eTup (aCons (eVar 8) (aCons (eC (.int 1)) (aCons (eC (.int 1)) (aCons (eC (.int 0)) aNil))))) aNil))) aNil))) sNil)) (sCons (sIf (tOr (tNot (tV (eCall cf 10 (aCons (eVar 4) (aCons (eVar 6) aNil))))) (tOr (tNot (tV (eCall cf 10 (aCons (eVar 5) (aCons (eVar 7) aNil))))) (tV (e2 opNe (e2 opSub (e2 opMul (e2 opIxA (eVar 4) (eC (.int 0))) (e2 opIxA (eVar 4) (eC (.int 3)))) (e2 opMul (e2 opIxA (eVar 4) (eC (.int 1))) (e2 opIxA (eVar 4) (eC (.int 2))))) (eC (.int 1)))))) (sCons (sRet (eC (.bl false))) sNil) sNil) (sCons (sIf (tV (e2 opNe (e2 opSub (e2 opMul (e2 opIxA (eVar 5) (eC (.int 0))) (e2 opIxA (eVar 5) (eC (.int 3)))) (e2 opMul (e2 opIxA (eVar 5) (eC (.int 1))) (e2 opIxA (eVar 5) (eC (.int 2))))) (eIf (tV (e2 opEq (e2 opAnd1 (e1 opLen (eVar 3)) (eC (.int 1))) (eC (.int 0)))) (eC (.int 1)) (e1 opNeg (eC (.int 1)))))) (sCons (sRet (eC (.bl false))) sNil) sNil) (sCons (sIf (tAnd (tV (e2 opGt (e1 opLen (eVar 3)) (eC (.int 1)))) (tV (e2 opNe (eVar 4) (eTup (aCons (eCall cf 2 (aCons (eVar 3) aNil)) (aCons (e1 opNeg (eCall cf 2 (aCons (eSl (eVar 3) pN (pS (e1 opNeg (eC (.int 1))))) aNil))) (aCons (eCall cf 2 (aCons (eSl (eVar 3) (pS (eC (.int 1))) pN) aNil)) (aCons (e1 opNeg (eCall cf 2 (aCons (eSl (eVar 3) (pS (eC (.int 1))) (pS (e1 opNeg (eC (.int 1))))) aNil))) aNil)))))))) (sCons (sRet (eC (.bl false))) sNil) sNil) (sCons (sIf (tAnd (tV (e2 opGt (e1 opLen (eVar 3)) (eC (.int 1)))) (tV (e2 opNe (eVar 5) (eTup (aCons (eCall cf 3 (aCons (eVar 3) aNil)) (aCons (eCall cf 3 (aCons (eSl (eVar 3) pN (pS (e1 opNeg (eC (.int 1))))) aNil)) (aCons (eCall cf 3 (aCons (eSl (eVar 3) (pS (eC (.int 1))) pN) aNil)) (aCons (eCall cf 3 (aCons (eSl (eVar 3) (pS (eC (.int 1))) (pS (e1 opNeg (eC (.int 1))))) aNil)) aNil)))))))) (sCons (sRet (eC (.bl false))) sNil) sNil) (sCons (sAsg (gN 9) (eCall cf 8 (aCons (eVar 1) (aCons (e2 opAdd (e1 opLen (eVar 3)) (eC (.int 1))) aNil)))) (sCons (sIf (tOr (tNot (tV (eCall cf 10 (aCons (eCall cf 4 (aCons (eCall cf 5 (aCons (eSl (eVar 3) pN (pS (eVar 9))) aNil)) (aCons (eCall cf 5 (aCons (eSl (eVar 3) (pS (eVar 9)) pN) aNil)) aNil))) (aCons (eVar 4) aNil))))) (tNot (tV (eCall cf 14 (aCons (eVar 1) aNil))))) (sCons (sRet (eC (.bl false))) sNil) sNil) sNil))))))))))))) (sCons (sRet (eC (.bl true))) sNil)))
def tab : List FD := [⟨1, 1, b_is_integer⟩, ⟨1, 2, b_check_integers⟩, ⟨1, 4, b_minus_continuant⟩, ⟨1, 4, b_plus_continuant⟩, ⟨2, 10, b_times⟩, ⟨1, 3, b_matrix_of⟩, ⟨1, 3, b_plus_matrix⟩, ⟨1, 3, b__law_tape⟩, ⟨2, 4, b__law_draw⟩, ⟨2, 2, b__law_pick⟩, ⟨2, 3, b__law_same⟩, ⟨1, 5, b__law_ways⟩, ⟨2, 7, b__law_continuant⟩, ⟨2, 2, b__law_times⟩, ⟨1, 4, b__law_refused⟩, ⟨1, 10, b_law⟩]
-- 0 is_integer
-- 1 check_integers
-- 2 minus_continuant
-- 3 plus_continuant
-- 4 times
-- 5 matrix_of
-- 6 plus_matrix
-- 7 _law_tape
-- 8 _law_draw
-- 9 _law_pick
-- 10 _law_same
-- 11 _law_ways
-- 12 _law_continuant
-- 13 _law_times
-- 14 _law_refused
-- 15 law
end L_k40
end
section
set_option linter.all false
set_option maxRecDepth 100000
set_option maxHeartbeats 1000000
/-! P_k40: continuants, plain. -/
namespace L_k40
/-- the two last ones of a continuant, from a start on -/
def cF (ε : Int) (p : Int × Int) (xs : List Int) : Int × Int := xs.foldl (fun p x => (p.2, x * p.2 + ε * p.1)) p
def ct (ε : Int) (xs : List Int) : Int := (cF ε (0, 1) xs).2
structure M4 where
  a : Int
  b : Int
  c : Int
  d : Int
def M4.mul (x y : M4) : M4 := ⟨x.a * y.a + x.b * y.c, x.a * y.b + x.b * y.d, x.c * y.a + x.d * y.c, x.c * y.b + x.d * y.d⟩
def M4.it (ε x : Int) : M4 := ⟨x, ε, 1, 0⟩
def M4.one : M4 := ⟨1, 0, 0, 1⟩
def mF (ε : Int) (xs : List Int) : M4 := xs.foldl (fun m x => m.mul (.it ε x)) .one
theorem M4.ext {x y : M4} (h1 : x.a = y.a) (h2 : x.b = y.b) (h3 : x.c = y.c) (h4 : x.d = y.d) : x = y := by
  cases x; cases y; cases h1; cases h2; cases h3; cases h4; rfl
theorem mul_assoc (x y z : M4) : (x.mul y).mul z = x.mul (y.mul z) := by
  apply M4.ext <;> simp only [M4.mul] <;> grind
theorem mul_one (x : M4) : x.mul .one = x := by apply M4.ext <;> simp [M4.mul, M4.one]
theorem one_mul (x : M4) : M4.one.mul x = x := by apply M4.ext <;> simp [M4.mul, M4.one]
theorem mF_from (ε : Int) : ∀ (xs : List Int) (m : M4), xs.foldl (fun m x => m.mul (.it ε x)) m = m.mul (mF ε xs)
  | [], m => (mul_one m).symm
  | x :: xs, m => by
    show xs.foldl _ (m.mul (.it ε x)) = m.mul (xs.foldl _ (M4.one.mul (.it ε x)))
    rw [mF_from ε xs, mF_from ε xs (M4.one.mul _), one_mul, mul_assoc]
theorem mF_append (ε : Int) (xs ys : List Int) : mF ε (xs ++ ys) = (mF ε xs).mul (mF ε ys) := by
  show (xs ++ ys).foldl _ _ = _
  rw [List.foldl_append]
  exact mF_from ε ys _
theorem mF_cons (ε x : Int) (xs : List Int) : mF ε (x :: xs) = (M4.it ε x).mul (mF ε xs) := by
  show xs.foldl _ (M4.one.mul (.it ε x)) = _
  rw [mF_from, one_mul]
theorem mF_snoc (ε x : Int) (xs : List Int) : mF ε (xs ++ [x]) = (mF ε xs).mul (M4.it ε x) := by
  rw [mF_append]; show (mF ε xs).mul (M4.one.mul _) = _; rw [one_mul]
def M4.det (x : M4) : Int := x.a * x.d - x.b * x.c
theorem det_cons (ε x : Int) (m : M4) : ((M4.it ε x).mul m).det = -ε * m.det := by
  simp only [M4.mul, M4.it, M4.det]; grind
theorem det_mF1 (xs : List Int) : (mF (-1) xs).det = 1 := by
  induction xs with
  | nil => rfl
  | cons x xs ih => rw [mF_cons, det_cons, ih]; rfl
theorem det_mF2 (xs : List Int) : (mF 1 xs).det = if xs.length % 2 = 0 then 1 else -1 := by
  induction xs with
  | nil => rfl
  | cons x xs ih =>
    rw [mF_cons, det_cons, ih, List.length_cons]
    by_cases h : xs.length % 2 = 0
    · rw [if_pos h, if_neg (by omega)]; rfl
    · rw [if_neg h, if_pos (by omega)]; rfl
/-! continuants and matrices -/
theorem cF_snoc (ε : Int) (p : Int × Int) (xs : List Int) (x : Int) : cF ε p (xs ++ [x]) = ((cF ε p xs).2, x * (cF ε p xs).2 + ε * (cF ε p xs).1) := by
  unfold cF; rw [List.foldl_append]; rfl
theorem ct_snoc (ε : Int) (xs : List Int) (x y : Int) : ct ε (xs ++ [x, y]) = y * ct ε (xs ++ [x]) + ε * ct ε xs := by
  unfold ct
  rw [show xs ++ [x, y] = (xs ++ [x]) ++ [y] by simp, cF_snoc ε _ (xs ++ [x]), cF_snoc]
theorem cF_fst (ε : Int) (xs : List Int) (h : xs ≠ []) : (cF ε (0, 1) xs).1 = ct ε xs.dropLast := by
  rcases List.eq_nil_or_concat xs with e | ⟨ys, y, e⟩
  · exact absurd e h
  · subst e
    rw [List.concat_eq_append, cF_snoc, List.dropLast_concat]; rfl
theorem mF_ct {ε : Int} (he : ε * ε = 1) (xs : List Int) : mF ε xs = ⟨ct ε xs, ε * (cF ε (0, 1) xs).1, (cF ε (ε, 0) xs).2, ε * (cF ε (ε, 0) xs).1⟩ := by
  have key : ∀ n : Nat, ∀ xs : List Int, xs.length = n → mF ε xs = ⟨ct ε xs, ε * (cF ε (0, 1) xs).1, (cF ε (ε, 0) xs).2, ε * (cF ε (ε, 0) xs).1⟩ := by
    intro n
    induction n with
    | zero =>
      intro xs h
      have : xs = [] := List.length_eq_zero_iff.mp h
      subst this
      apply M4.ext <;> simp [mF, ct, cF, M4.one, he]
    | succ n ih =>
      intro xs h
      rcases List.eq_nil_or_concat xs with e | ⟨ys, y, e⟩
      · subst e; cases h
      · subst e
        rw [List.concat_eq_append] at h ⊢
        rw [mF_snoc, ih ys (by simpa using h)]
        unfold ct
        rw [cF_snoc, cF_snoc]
        apply M4.ext <;> simp only [M4.mul, M4.it] <;> grind
  exact key _ xs rfl
theorem mF_end {ε : Int} (he : ε * ε = 1) (xs : List Int) (h : 1 < xs.length) : mF ε xs = ⟨ct ε xs, ε * ct ε xs.dropLast, ct ε xs.tail, ε * ct ε xs.tail.dropLast⟩ := by
  match xs, h with
  | x :: y :: r, _ =>
    have e2 : cF ε (ε, 0) (x :: y :: r) = cF ε (0, 1) (y :: r) := by
      show cF ε (0, x * 0 + ε * ε) (y :: r) = _
      rw [he]; simp
    rw [mF_ct he, e2, cF_fst ε (x :: y :: r) (by simp), cF_fst ε (y :: r) (by simp)]; rfl
/-! from the front on -/
theorem cF_lin (ε : Int) : ∀ (xs : List Int) (b n : Int), (cF ε (b, n) xs).2 = n * (cF ε (0, 1) xs).2 + b * (cF ε (1, 0) xs).2
  | [], b, n => by simp [cF]
  | x :: xs, b, n => by
    show (cF ε (n, x * n + ε * b) xs).2 = n * (cF ε (1, x * 1 + ε * 0) xs).2 + b * (cF ε (0, x * 0 + ε * 1) xs).2
    rw [cF_lin ε xs n, cF_lin ε xs 1 (x * 1 + ε * 0), cF_lin ε xs 0 (x * 0 + ε * 1)]
    grind
theorem ct_front (ε x y : Int) (xs : List Int) : ct ε (x :: y :: xs) = x * ct ε (y :: xs) + ε * ct ε xs := by
  show (cF ε (1, x * 1 + ε * 0) (y :: xs)).2 = _
  rw [cF_lin ε (y :: xs)]
  show _ + 1 * (cF ε (0, y * 0 + ε * 1) xs).2 = _
  rw [cF_lin ε xs 0]
  show _ = x * (cF ε (0, 1) (y :: xs)).2 + ε * (cF ε (0, 1) xs).2
  grind
theorem ct_rev (ε : Int) : ∀ (n : Nat) (xs : List Int), xs.length ≤ n → ct ε xs.reverse = ct ε xs
  | _, [], _ => rfl
  | _, [x], _ => rfl
  | n + 2, x :: y :: r, h => by
    rw [List.reverse_cons, List.reverse_cons, List.append_assoc]
    show ct ε (r.reverse ++ [y, x]) = _
    rw [ct_snoc, ct_front, ct_rev ε n r (by simp at h; omega), ← List.reverse_cons, ct_rev ε (n + 1) (y :: r) (by simp at h ⊢; omega)]
  | 0, _ :: _ :: _, h => by simp at h
  | 1, _ :: _ :: _, h => by simp at h
/-! all ways to leave out pairs -/
def W : Nat → List (List Nat)
  | 0 => [[]]
  | 1 => [[0]]
  | n + 2 => (W (n + 1)).map (· ++ [n + 1]) ++ W n
def prd (xs : List Int) (l : List Nat) : Int := (l.map fun k => xs.getD k 0).foldl (fun a b => a * b) 1
def sg (s : Int) (k : Nat) : Bool := decide (0 < s) || decide (k % 2 = 0)
def sgn (s : Int) (n : Nat) (l : List Nat) (p : Int) : Int := if sg s ((n - l.length) / 2) then p else -p
/-- the sum over all ways -/
def ctW (s : Int) (xs : List Int) (n : Nat) : Int := ((W n).map fun l => sgn s n l (prd xs l)).sum
theorem prd_snoc (xs : List Int) (l : List Nat) (k : Nat) : prd xs (l ++ [k]) = prd xs l * xs.getD k 0 := by
  unfold prd; rw [List.map_append, List.foldl_append]; rfl
theorem W_len : ∀ (n : Nat) (l : List Nat), l ∈ W n → l.length ≤ n ∧ (n - l.length) % 2 = 0 ∧ ∀ k ∈ l, k < n
  | 0, l, h => by
    have : l = [] := by simpa [W] using h
    subst this; simp
  | 1, l, h => by
    have : l = [0] := by simpa [W] using h
    subst this; simp
  | n + 2, l, h => by
    unfold W at h
    rcases List.mem_append.mp h with h | h
    · obtain ⟨l', h1, e⟩ := List.mem_map.mp h
      subst e
      obtain ⟨h2, h3, h4⟩ := W_len (n + 1) l' h1
      refine ⟨by simp; omega, by simp; omega, fun k hk => ?_⟩
      rcases List.mem_append.mp hk with q | q
      · have := h4 k q; omega
      · have : k = n + 1 := by simpa using q
        omega
    · obtain ⟨h2, h3, h4⟩ := W_len n l h
      exact ⟨by omega, by omega, fun k hk => by have := h4 k hk; omega⟩
theorem sum_mul (f : List Nat → Int) (y : Int) : ∀ ls : List (List Nat), (ls.map fun l => f l * y).sum = (ls.map f).sum * y
  | [] => by simp
  | l :: ls => by simp only [List.map_cons, List.sum_cons, sum_mul f y ls]; grind
theorem ctW_step (ε s : Int) (hs : (ε = 1 ∧ 0 < s) ∨ (ε = -1 ∧ ¬ 0 < s)) (xs : List Int) (n : Nat) : ctW s xs (n + 2) = xs.getD (n + 1) 0 * ctW s xs (n + 1) + ε * ctW s xs n := by
  unfold ctW
  rw [show W (n + 2) = (W (n + 1)).map (· ++ [n + 1]) ++ W n from rfl, List.map_append, List.sum_append, List.map_map]
  have h1 : (W (n + 1)).map ((fun l => sgn s (n + 2) l (prd xs l)) ∘ (· ++ [n + 1])) = (W (n + 1)).map fun l => sgn s (n + 1) l (prd xs l) * xs.getD (n + 1) 0 := by
    apply List.map_congr_left
    intro l hl
    obtain ⟨q1, q2, _⟩ := W_len (n + 1) l hl
    show sgn s (n + 2) (l ++ [n + 1]) (prd xs (l ++ [n + 1])) = _
    rw [prd_snoc]
    unfold sgn
    rw [show (n + 2 - (l ++ [n + 1]).length) / 2 = (n + 1 - l.length) / 2 by simp]
    split
    · rfl
    · exact (Int.neg_mul _ _).symm
  have h2 : (W n).map (fun l => sgn s (n + 2) l (prd xs l)) = (W n).map fun l => sgn s n l (prd xs l) * ε := by
    apply List.map_congr_left
    intro l hl
    obtain ⟨q1, q2, _⟩ := W_len n l hl
    unfold sgn sg
    rcases hs with ⟨e, h⟩ | ⟨e, h⟩
    · subst e; simp [h]
    · subst e
      rw [decide_eq_false h, Bool.false_or, Bool.false_or]
      by_cases hq : (n - l.length) / 2 % 2 = 0
      · rw [if_neg (by rw [decide_eq_true_eq]; omega), if_pos (by rw [decide_eq_true_eq]; exact hq)]; simp
      · rw [if_pos (by rw [decide_eq_true_eq]; omega), if_neg (by rw [decide_eq_true_eq]; exact hq)]; simp
  rw [h1, h2, sum_mul, sum_mul, Int.mul_comm, Int.mul_comm ε]
theorem ctW_ct (ε s : Int) (hs : (ε = 1 ∧ 0 < s) ∨ (ε = -1 ∧ ¬ 0 < s)) (xs : List Int) : ∀ n, n ≤ xs.length → ctW s xs n = ct ε (xs.take n)
  | 0, _ => by simp [ctW, W, ct, cF, sgn, sg, prd]
  | 1, h => by
    match xs, h with
    | x :: r, _ => simp [ctW, W, ct, cF, sgn, sg, prd]
  | n + 2, h => by
    rw [ctW_step ε s hs, ctW_ct ε s hs xs (n + 1) (by omega), ctW_ct ε s hs xs n (by omega)]
    have e1 : xs.take (n + 1) = xs.take n ++ [xs[n]'(by omega)] := by rw [List.take_succ_eq_append_getElem (by omega)]
    have e2 : xs.take (n + 2) = xs.take n ++ [xs[n]'(by omega), xs[n + 1]'(by omega)] := by
      rw [List.take_succ_eq_append_getElem (i := n + 1) (by omega), e1, List.append_assoc]; rfl
    rw [e2, ct_snoc, ← e1, List.getD_eq_getElem?_getD, List.getElem?_eq_getElem (by omega)]; rfl
theorem ctW_all (ε s : Int) (hs : (ε = 1 ∧ 0 < s) ∨ (ε = -1 ∧ ¬ 0 < s)) (xs : List Int) : ctW s xs xs.length = ct ε xs := by
  rw [ctW_ct ε s hs xs _ (Nat.le_refl _), List.take_length]
/-! bounds -/
theorem mF_le (ε : Int) (he : ε = 1 ∨ ε = -1) : ∀ xs : List Int, (∀ x ∈ xs, -4 ≤ x ∧ x ≤ 5) → ∀ N : Nat, N = 6 ^ xs.length → (mF ε xs).a.natAbs ≤ N ∧ (mF ε xs).b.natAbs ≤ N ∧ (mF ε xs).c.natAbs ≤ N ∧ (mF ε xs).d.natAbs ≤ N
  | [], _, N, hN => by subst hN; simp [mF, M4.one]
  | x :: xs, h, N, hN => by
    obtain ⟨h1, h2, h3, h4⟩ := mF_le ε he xs (fun y hy => h y (List.mem_cons_of_mem _ hy)) _ rfl
    obtain ⟨g1, g2⟩ := h x List.mem_cons_self
    rw [List.length_cons, Nat.pow_succ] at hN
    generalize (6 ^ xs.length : Nat) = M at h1 h2 h3 h4 hN
    rw [mF_cons]
    generalize mF ε xs = m at h1 h2 h3 h4
    show (x * m.a + ε * m.c).natAbs ≤ N ∧ (x * m.b + ε * m.d).natAbs ≤ N ∧ (1 * m.a + 0 * m.c).natAbs ≤ N ∧ (1 * m.b + 0 * m.d).natAbs ≤ N
    have hx : x = -4 ∨ x = -3 ∨ x = -2 ∨ x = -1 ∨ x = 0 ∨ x = 1 ∨ x = 2 ∨ x = 3 ∨ x = 4 ∨ x = 5 := by omega
    rcases he with e | e <;> subst e <;> rcases hx with e | e | e | e | e | e | e | e | e | e <;> subst e <;> refine ⟨?_, ?_, ?_, ?_⟩ <;> omega
theorem M4.le_of {m : M4} {N M : Nat} (h : m.a.natAbs ≤ N ∧ m.b.natAbs ≤ N ∧ m.c.natAbs ≤ N ∧ m.d.natAbs ≤ N) (l : N ≤ M) : m.a.natAbs ≤ M ∧ m.b.natAbs ≤ M ∧ m.c.natAbs ≤ M ∧ m.d.natAbs ≤ M := ⟨by omega, by omega, by omega, by omega⟩
end L_k40
end
section
set_option linter.all false
set_option maxRecDepth 100000
set_option maxHeartbeats 4000000
/-! P2_k40: what each function gives. -/
namespace L_k40
open PySem Mi
theorem c_is_integer (n : Nat) (μ : Hq) (i : Int) : callF tab (n + 1) 0 [.int i] μ = .ok (vb true) μ := rfl
theorem pure1 (xs : List Int) : D.pures [.tup (xs.map D.int)] = true := by
  show (D.pures (xs.map D.int) && true) = true
  rw [pures_ints]; rfl
theorem all_int (n : Nat) (xs : List Int) (hl : xs.length ≤ 1000000) (r : List (Option D)) (μ : Hq) : e1 opAll (eLc [1] (gN 1) (iEA (eVar 0)) tYs (eCall (callF tab (n + 1)) 0 (aCons (eVar 1) aNil))) (some (.tup (xs.map D.int)) :: none :: r) μ = .ok (vb true) μ :=
  all_of D.int xs rfl hl fun x _ => ⟨_, rfl, c_is_integer n μ x⟩
theorem c_check_integers (n : Nat) (μ : Hq) (xs : List Int) (hl : xs.length ≤ 1000000) : callF tab (n + 2) 1 [.tup (xs.map D.int)] μ = .ok (.val .non) μ := by
  refine call_n (ρ' := [some (.tup (xs.map D.int)), none]) (μ' := []) [some (.tup (xs.map D.int)), none] rfl rfl rfl (pure1 xs) ?_
  exact sc (sif0 (tor0 (tn1 (tv rfl rfl)) (tn1 (tb (all_int n xs hl [] [])))) rfl) rfl
/-- a row of the law -/
def Rw (xs : List Int) : Prop := xs.length ≤ 1000 ∧ ∀ x ∈ xs, -4 ≤ x ∧ x ≤ 5
theorem c_minus (n : Nat) (μ : Hq) (xs : List Int) (hs : Rw xs) : callF tab (n + 3) 2 [.tup (xs.map D.int)] μ = .ok (vi (ct (-1) xs)) μ := by
  let E : List Int → Ev := fun pre => [some (.tup (xs.map D.int)), some (.int (cF (-1) (0, 1) pre).1), some (.int (cF (-1) (0, 1) pre).2), if pre = [] then none else some (.int (pre.getLastD 0))]
  refine call_v (ρ' := E xs) (μ' := []) [some (.tup (xs.map D.int)), none, none, none] rfl rfl rfl (pure1 xs) rfl ?_
  refine pexp (c_check_integers n [] xs (by have := hs.1; omega)) (sc (sasg rfl rfl) (sc (sfor0 (xs := xs.map D.int) rfl (?_ : foGo _ _ (xs.map D.int) (E []) [] = .ok .nx (E xs) [])) (pret rfl)))
  refine fo_mem D.int E xs (fun pre x post e => ?_) xs [] rfl
  refine ⟨[some (.tup (xs.map D.int)), some (.int (cF (-1) (0, 1) pre).1), some (.int (cF (-1) (0, 1) pre).2), some (.int x)], rfl, ?_⟩
  have hx := hs.2 x (by rw [e]; simp)
  refine (sc (spar (qa rfl (qa (q2 (q2 rfl rfl (mul_small (by omega) _)) rfl rfl) qn))) rfl).trans ?_
  show RS.ok .nx _ _ = RS.ok .nx (E (pre ++ [x])) _
  simp only [E, cF_snoc, List.getLastD_concat, List.append_ne_nil_of_right_ne_nil, ne_eq, List.cons_ne_self, not_false_eq_true, if_neg]
  simp
  omega
theorem c_plus (n : Nat) (μ : Hq) (xs : List Int) (hs : Rw xs) : callF tab (n + 3) 3 [.tup (xs.map D.int)] μ = .ok (vi (ct 1 xs)) μ := by
  let E : List Int → Ev := fun pre => [some (.tup (xs.map D.int)), some (.int (cF 1 (0, 1) pre).1), some (.int (cF 1 (0, 1) pre).2), if pre = [] then none else some (.int (pre.getLastD 0))]
  refine call_v (ρ' := E xs) (μ' := []) [some (.tup (xs.map D.int)), none, none, none] rfl rfl rfl (pure1 xs) rfl ?_
  refine pexp (c_check_integers n [] xs (by have := hs.1; omega)) (sc (sasg rfl rfl) (sc (sfor0 (xs := xs.map D.int) rfl (?_ : foGo _ _ (xs.map D.int) (E []) [] = .ok .nx (E xs) [])) (pret rfl)))
  refine fo_mem D.int E xs (fun pre x post e => ?_) xs [] rfl
  refine ⟨[some (.tup (xs.map D.int)), some (.int (cF 1 (0, 1) pre).1), some (.int (cF 1 (0, 1) pre).2), some (.int x)], rfl, ?_⟩
  have hx := hs.2 x (by rw [e]; simp)
  refine (sc (spar (qa rfl (qa (q2 (q2 rfl rfl (mul_small (by omega) _)) rfl rfl) qn))) rfl).trans ?_
  show RS.ok .nx _ _ = RS.ok .nx (E (pre ++ [x])) _
  simp [E, cF_snoc]
/-- a matrix as a value -/
def mt (x : M4) : D := .tup [.int x.a, .int x.b, .int x.c, .int x.d]
def Sm4 (y : M4) : Prop := y.a.natAbs < 18446744073709551616 ∧ y.b.natAbs < 18446744073709551616 ∧ y.c.natAbs < 18446744073709551616 ∧ y.d.natAbs < 18446744073709551616
theorem sm_it {ε x : Int} (he : ε = 1 ∨ ε = -1) (hx : -4 ≤ x ∧ x ≤ 5) : Sm4 (M4.it ε x) := by
  unfold Sm4 M4.it
  rcases he with e | e <;> subst e <;> refine ⟨?_, ?_, ?_, ?_⟩ <;> simp <;> omega
theorem c_times (n : Nat) (μ : Hq) (x y : M4) (hy : Sm4 y) : callF tab (n + 1) 4 [mt x, mt y] μ = .ok (.val (mt (x.mul y))) μ := by
  obtain ⟨h1, h2, h3, h4⟩ := hy
  refine call_v (μ' := []) (ρ' := [some (mt x), some (mt y), some (.int x.a), some (.int x.b), some (.int x.c), some (.int x.d), some (.int y.a), some (.int y.b), some (.int y.c), some (.int y.d)]) [some (mt x), some (mt y), none, none, none, none, none, none, none, none] rfl rfl rfl rfl rfl ?_
  refine sc (sasg rfl rfl) (sc (sasg rfl rfl) (sr_rt (sret ?_)))
  refine qtup (ds := [.int (x.mul y).a, .int (x.mul y).b, .int (x.mul y).c, .int (x.mul y).d]) ?_ (by simp)
  unfold M4.mul
  exact qa (q2 (q2 rfl rfl (mul_small' h1 _)) (q2 rfl rfl (mul_small' h3 _)) rfl) (qa (q2 (q2 rfl rfl (mul_small' h2 _)) (q2 rfl rfl (mul_small' h4 _)) rfl) (qa (q2 (q2 rfl rfl (mul_small' h1 _)) (q2 rfl rfl (mul_small' h3 _)) rfl) (qa (q2 (q2 rfl rfl (mul_small' h2 _)) (q2 rfl rfl (mul_small' h4 _)) rfl) qn)))
theorem c_ltimes (n : Nat) (μ : Hq) (x y : M4) (hy : Sm4 y) : callF tab (n + 1) 13 [mt x, mt y] μ = .ok (.val (mt (x.mul y))) μ := by
  obtain ⟨h1, h2, h3, h4⟩ := hy
  refine call_v (μ' := []) (ρ' := [some (mt x), some (mt y)]) [some (mt x), some (mt y)] rfl rfl rfl rfl rfl ?_
  refine sr_rt (sret ?_)
  refine qtup (ds := [.int (x.mul y).a, .int (x.mul y).b, .int (x.mul y).c, .int (x.mul y).d]) ?_ (by simp)
  unfold M4.mul
  exact qa (q2 (q2 (q2 rfl rfl (rfl : _ = R.ok (vi x.a) _)) (q2 rfl rfl (rfl : _ = R.ok (vi y.a) _)) (mul_small' h1 _)) (q2 (q2 rfl rfl (rfl : _ = R.ok (vi x.b) _)) (q2 rfl rfl (rfl : _ = R.ok (vi y.c) _)) (mul_small' h3 _)) rfl) (qa (q2 (q2 (q2 rfl rfl (rfl : _ = R.ok (vi x.a) _)) (q2 rfl rfl (rfl : _ = R.ok (vi y.b) _)) (mul_small' h2 _)) (q2 (q2 rfl rfl (rfl : _ = R.ok (vi x.b) _)) (q2 rfl rfl (rfl : _ = R.ok (vi y.d) _)) (mul_small' h4 _)) rfl) (qa (q2 (q2 (q2 rfl rfl (rfl : _ = R.ok (vi x.c) _)) (q2 rfl rfl (rfl : _ = R.ok (vi y.a) _)) (mul_small' h1 _)) (q2 (q2 rfl rfl (rfl : _ = R.ok (vi x.d) _)) (q2 rfl rfl (rfl : _ = R.ok (vi y.c) _)) (mul_small' h3 _)) rfl) (qa (q2 (q2 (q2 rfl rfl (rfl : _ = R.ok (vi x.c) _)) (q2 rfl rfl (rfl : _ = R.ok (vi y.b) _)) (mul_small' h2 _)) (q2 (q2 rfl rfl (rfl : _ = R.ok (vi x.d) _)) (q2 rfl rfl (rfl : _ = R.ok (vi y.d) _)) (mul_small' h4 _)) rfl) qn)))
theorem c_matrix (n : Nat) (μ : Hq) (xs : List Int) (hs : Rw xs) : callF tab (n + 3) 5 [.tup (xs.map D.int)] μ = .ok (.val (mt (mF (-1) xs))) μ := by
  let E : List Int → Ev := fun pre => [some (.tup (xs.map D.int)), some (mt (mF (-1) pre)), if pre = [] then none else some (.int (pre.getLastD 0))]
  refine call_v (ρ' := E xs) (μ' := []) [some (.tup (xs.map D.int)), none, none] rfl rfl rfl (pure1 xs) rfl ?_
  refine pexp (c_check_integers n [] xs (by have := hs.1; omega)) (sc (sasgN rfl) (sc (sfor0 (xs := xs.map D.int) rfl (?_ : foGo _ _ (xs.map D.int) (E []) [] = .ok .nx (E xs) [])) (pret rfl)))
  refine fo_mem D.int E xs (fun pre x post e => ?_) xs [] rfl
  refine ⟨[some (.tup (xs.map D.int)), some (mt (mF (-1) pre)), some (.int x)], rfl, ?_⟩
  have hx := hs.2 x (by rw [e]; simp)
  refine (sc (sasgN (qc (qa rfl (qa rfl qn)) (c_times (n + 1) [] (mF (-1) pre) (.it (-1) x) (sm_it (.inr rfl) hx)))) rfl).trans ?_
  show RS.ok .nx _ _ = RS.ok .nx (E (pre ++ [x])) _
  simp [E, mF_snoc]
theorem c_plusm (n : Nat) (μ : Hq) (xs : List Int) (hs : Rw xs) : callF tab (n + 3) 6 [.tup (xs.map D.int)] μ = .ok (.val (mt (mF 1 xs))) μ := by
  let E : List Int → Ev := fun pre => [some (.tup (xs.map D.int)), some (mt (mF 1 pre)), if pre = [] then none else some (.int (pre.getLastD 0))]
  refine call_v (ρ' := E xs) (μ' := []) [some (.tup (xs.map D.int)), none, none] rfl rfl rfl (pure1 xs) rfl ?_
  refine pexp (c_check_integers n [] xs (by have := hs.1; omega)) (sc (sasgN rfl) (sc (sfor0 (xs := xs.map D.int) rfl (?_ : foGo _ _ (xs.map D.int) (E []) [] = .ok .nx (E xs) [])) (pret rfl)))
  refine fo_mem D.int E xs (fun pre x post e => ?_) xs [] rfl
  refine ⟨[some (.tup (xs.map D.int)), some (mt (mF 1 pre)), some (.int x)], rfl, ?_⟩
  have hx := hs.2 x (by rw [e]; simp)
  refine (sc (sasgN (qc (qa rfl (qa rfl qn)) (c_times (n + 1) [] (mF 1 pre) (.it 1 x) (sm_it (.inl rfl) hx)))) rfl).trans ?_
  show RS.ok .nx _ _ = RS.ok .nx (E (pre ++ [x])) _
  simp [E, mF_snoc]
theorem c_same_int (n : Nat) (μ : Hq) (a b : Int) : callF tab (n + 1) 10 [.int a, .int b] μ = .ok (vb (decide (a = b))) μ := rfl
theorem c_same_mt (n : Nat) (μ : Hq) (x : M4) : callF tab (n + 2) 10 [mt x, mt x] μ = .ok (vb true) μ := by
  have h : callF tab (n + 2) 10 [mt x, mt x] μ = .ok (vb ([decide (x.a = x.a), decide (x.b = x.b), decide (x.c = x.c), decide (x.d = x.d)].all id)) μ := by kernel_rfl
  rw [h]; simp
theorem ne_mt (μ : Hq) (x : M4) : opNe (.val (mt x)) (.val (mt x)) μ = .ok (vb false) μ := by
  have h : opNe (.val (mt x)) (.val (mt x)) μ = .ok (vb (!(decide (x.a = x.a) && (decide (x.b = x.b) && (decide (x.c = x.c) && (decide (x.d = x.d) && true)))))) μ := by kernel_rfl
  rw [h]; simp
/-- a way as a value -/
def wt (l : List Nat) : D := .tup (l.map fun (k : Nat) => D.int k)
theorem c_ways (n k : Nat) (hk : k ≤ 7) (μ : Hq) : callF tab (n + 1) 11 [.int (k : Nat)] μ = .ok (.new (.lst ((W k).map wt))) μ := by
  have : k = 0 ∨ k = 1 ∨ k = 2 ∨ k = 3 ∨ k = 4 ∨ k = 5 ∨ k = 6 ∨ k = 7 := by omega
  rcases this with e | e | e | e | e | e | e | e <;> subst e <;> kernel_rfl
end L_k40
end
section
set_option linter.all false
set_option maxRecDepth 100000
set_option maxHeartbeats 4000000
/-! P3_k40: the law's own continuant, refusals. -/
namespace L_k40
open PySem Mi
theorem fo_st0 {α : Type} {g : GF} {b : SF} (I : α → D) (P : List α → Ev → Prop) (μ : Hq) (all : List α) (h : ∀ pre x post, all = pre ++ x :: post → ∀ ρ, P pre ρ → ∃ ρ1 ρ2, g (I x) ρ μ = .ok ρ1 μ ∧ b ρ1 μ = .ok .nx ρ2 μ ∧ P (pre ++ [x]) ρ2) (ρ : Ev) (hp : P [] ρ) : ∃ ρ2, foGo g b (all.map I) ρ μ = .ok .nx ρ2 μ ∧ P all ρ2 := by
  obtain ⟨ρ2, μ2, h1, h2, h3⟩ := fo_st (g := g) (b := b) I (fun pre ρ ν => P pre ρ ∧ ν = μ) all (fun pre x post e ρ ν hp => by
    obtain ⟨hp, rfl⟩ := hp
    obtain ⟨ρ1, ρ2, h1, h2, h3⟩ := h pre x post e ρ hp
    exact ⟨ρ1, ν, ρ2, ν, h1, h2, h3, rfl⟩) all [] rfl ρ μ ⟨hp, rfl⟩
  subst h3
  exact ⟨ρ2, h1, h2⟩
theorem wt_len (l : List Nat) (μ : Hq) : opLen (.val (wt l)) μ = .ok (vi l.length) μ := by
  show R.ok (vi (l.map fun (k : Nat) => D.int k).length) μ = _
  rw [List.length_map]
theorem row_len (xs : List Int) (μ : Hq) : opLen (.val (.tup (xs.map D.int))) μ = .ok (vi xs.length) μ := by
  show R.ok (vi (xs.map D.int).length) μ = _
  rw [List.length_map]
theorem tor {c d : TF} {ρ : Ev} {μ : Hq} {k j : Bool} (h1 : c ρ μ = .ok k μ) (h2 : d ρ μ = .ok j μ) : tOr c d ρ μ = .ok (k || j) μ := by
  cases k
  · exact tor0 h1 h2
  · exact tor1 h1
theorem qif {c : TF} {a b : EF} {ρ : Ev} {μ : Hq} {k : Bool} {x y : Tv} (h1 : c ρ μ = .ok k μ) (h2 : a ρ μ = .ok x μ) (h3 : b ρ μ = .ok y μ) : eIf c a b ρ μ = .ok (if k then x else y) μ := by
  cases k
  · exact qif0 h1 h3
  · exact qif1 h1 h2
def contIn : SF := sCons (sAsg (gN 4) (e2 opMul (eVar 4) (e2 opIxA (eVar 0) (eVar 6)))) sNil
def contB : SF := (sCons (sPar 4 5 (aCons (eC (.int 1)) (aCons (e2 opDiv (e2 opSub (e1 opLen (eVar 0)) (e1 opLen (eVar 3))) (eC (.int 2))) aNil))) (sCons (sFor (gN 6) (iEA (eVar 3)) contIn) (sCons (sAsg (gN 2) (e2 opAdd (eVar 2) (eIf (tOr (tV (e2 opGt (eVar 1) (eC (.int 0)))) (tV (e2 opEq (e2 opAnd1 (eVar 5) (eC (.int 1))) (eC (.int 0))))) (eVar 4) (e1 opNeg (eVar 4))))) sNil)))
theorem cont_turn (xs : List Int) (hs : Rw xs) (s t : Int) (l : List Nat) (h1 : l.length ≤ xs.length) (h3 : ∀ k ∈ l, k < xs.length) (b c d : Option D) :
    ∃ b' c' d', contB [some (.tup (xs.map D.int)), some (.int s), some (.int t), some (wt l), b, c, d] [] = .ok .nx [some (.tup (xs.map D.int)), some (.int s), some (.int (t + sgn s xs.length l (prd xs l))), some (wt l), b', c', d'] [] := by
  let pr : Int := ((xs.length : Int) - (l.length : Int)) / 2
  let E : List Nat → Ev := fun q => [some (.tup (xs.map D.int)), some (.int s), some (.int t), some (wt l), some (.int (prd xs q)), some (.int pr), if q = [] then d else some (.int ((q.getLastD 0 : Nat) : Int))]
  have hin : foGo (gN 6) contIn (l.map fun (k : Nat) => D.int k) (E []) [] = .ok .nx (E l) [] := by
    refine fo_mem (fun (k : Nat) => D.int k) E l (fun pre x post e => ?_) l [] rfl
    refine ⟨[some (.tup (xs.map D.int)), some (.int s), some (.int t), some (wt l), some (.int (prd xs pre)), some (.int pr), some (.int (x : Nat))], rfl, ?_⟩
    have hx : x < xs.length := h3 x (by rw [e]; simp)
    have hg : (xs.map D.int)[x]? = some (.int (xs.getD x 0)) := by simp [hx, List.getD_eq_getElem?_getD]
    have hb := hs.2 (xs.getD x 0) (by rw [List.getD_eq_getElem?_getD, List.getElem?_eq_getElem hx]; exact List.getElem_mem hx)
    unfold contIn
    refine (sc (sasgN (v := .int (prd xs pre * xs.getD x 0)) (q2 rfl (q2 rfl rfl (show opIxA (.val (.tup (xs.map D.int))) (vi (x : Nat)) [] = _ from ix_tup hg [])) (mulL (by omega) []))) rfl).trans ?_
    show RS.ok .nx _ _ = RS.ok .nx (E (pre ++ [x])) _
    simp [E, prd_snoc]
  have hk : (decide (pr % 2 = 0)) = decide ((xs.length - l.length) / 2 % 2 = 0) := by
    have : (pr % 2 = 0) ↔ ((xs.length - l.length) / 2 % 2 = 0) := by
      show ((xs.length : Int) - (l.length : Int)) / 2 % 2 = 0 ↔ _
      omega
    exact decide_eq_decide.mpr this
  refine ⟨some (.int (prd xs l)), some (.int pr), (if l = [] then d else some (.int ((l.getLastD 0 : Nat) : Int))), ?_⟩
  unfold contB
  refine (sc (spar (v := .int 1) (w := .int pr) (μ1 := []) (qa rfl (qa (q2 (q2 (q1 rfl (row_len xs [])) (q1 rfl (wt_len l [])) rfl) rfl (divP (by decide) (by decide) [])) qn))) (sc (sfor0 (ρ1 := E l) (μ2 := []) (xs := l.map fun (k : Nat) => D.int k) rfl hin) (sc (sasgN (v := .int (t + sgn s xs.length l (prd xs l))) (μ1 := []) (q2 rfl (qif (k := sg s ((xs.length - l.length) / 2)) (x := vi (prd xs l)) (y := vi (-prd xs l)) ?_ rfl rfl) ?_)) rfl)))
  · unfold sg
    rw [← hk]
    exact tor (tb rfl) (tb (q2 (q2 rfl rfl rfl) rfl rfl))
  · unfold sgn
    split <;> rfl
theorem c_cont (n : Nat) (μ : Hq) (xs : List Int) (hs : Rw xs) (hl : xs.length ≤ 7) (s : Int) : callF tab (n + 2) 12 [.tup (xs.map D.int), .int s] μ = .ok (vi (ctW s xs xs.length)) μ := by
  let N := xs.length
  let tot : List (List Nat) → Int := fun pre => (pre.map fun l => sgn s N l (prd xs l)).sum
  have hw := c_ways n N hl []
  obtain ⟨ρ2, hf, a, b, c, d, hρ⟩ := fo_st0 (g := gN 3) (b := contB) wt (fun pre ρ => ∃ a b c d, ρ = [some (.tup (xs.map D.int)), some (.int s), some (.int (tot pre)), a, b, c, d]) [] (W N) (fun pre l post e ρ hp => by
      obtain ⟨a, b, c, d, rfl⟩ := hp
      obtain ⟨hl1, hl2, hl3⟩ := W_len N l (by rw [e]; simp)
      obtain ⟨b', c', d', h⟩ := cont_turn xs hs s (tot pre) l hl1 hl3 b c d
      refine ⟨[some (.tup (xs.map D.int)), some (.int s), some (.int (tot pre)), some (wt l), b, c, d], _, rfl, h, some (wt l), b', c', d', ?_⟩
      simp [tot, N]) [some (.tup (xs.map D.int)), some (.int s), some (.int 0), none, none, none, none] ⟨none, none, none, none, rfl⟩
  refine call_v (ρ' := ρ2) (μ' := []) [some (.tup (xs.map D.int)), some (.int s), none, none, none, none, none] rfl rfl rfl (by show (D.pure (.tup (xs.map D.int)) && true) = true; unfold D.pure; rw [pures_ints]; rfl) rfl ?_
  have hi : iEA (eCall (callF tab (n + 1)) 11 (aCons (e1 opLen (eVar 0)) aNil)) [some (.tup (xs.map D.int)), some (.int s), some (.int 0), none, none, none, none] [] = .ok ⟨(W N).map wt, none⟩ [] := by
    unfold iEA
    rw [qc (qa (q1 rfl (row_len xs [])) qn) hw]; rfl
  refine sc (sasgN rfl) (sc (sfor0 hi hf) (sr_rt (sret ?_)))
  rw [hρ]; rfl
/-! refusals -/
def bads : List D := [.non, .int 7, .tup [.int 1, .non], .tup [.int 1, .bl true], .tup [.str "1"], .tup [.tup [.int 1]]]
def four (bad : D) (n : Nat) (μ : Hq) : Prop := ∀ f, f = 2 ∨ f = 3 ∨ f = 5 ∨ f = 6 → callF tab (n + 3) f [bad] μ = .exc 1 .non μ
theorem bad_val (n : Nat) (μ : Hq) (bad : D) (h : bad ∈ bads) : four bad n μ := by
  intro f hf
  simp only [bads, List.mem_cons, List.not_mem_nil, or_false] at h
  rcases h with e | e | e | e | e | e <;> subst e <;> rcases hf with e | e | e | e <;> subst e <;> kernel_rfl
theorem bad_ref (n : Nat) (μ : Hq) (r : Nat) (xs : List D) (h : μ[r]? = some (.lst xs)) : four (.ref r) n μ := by
  have hc : callF tab (n + 2) 1 [.ref r] μ = .exc 1 .non μ := by
    show endV (b_check_integers (callF tab (n + 1)) [some (.ref r), none] μ) = _
    have hi : e1 (opIsi .tuple) (eVar 0) [some (.ref r), none] μ = .ok (vb false) μ := by
      refine q1 rfl ?_
      show (match isTy μ .tuple (.val (.ref r)) with | some b => R.ok (vb b) μ | none => .fail) = _
      have : lq μ (.val (.ref r)) = some xs := by show (μ[r]?).bind Ob.seq = _; rw [h]; rfl
      have : isTy μ .tuple (.val (.ref r)) = some false := by
        show (match lq μ (.val (.ref r)) with | some _ => some _ | none => none) = _
        rw [this]
      rw [this]
    have hs : b_check_integers (callF tab (n + 1)) [some (.ref r), none] μ = .exc 1 .non [some (.ref r), none] μ := by
      unfold b_check_integers
      have : (sIf (tOr (tNot (tV (e1 (opIsi .tuple) (eVar 0)))) (tNot (tV (e1 opAll (eLc [1] (gN 1) (iEA (eVar 0)) tYs (eCall (callF tab (n + 1)) 0 (aCons (eVar 1) aNil))))))) (sCons (sRz 1) sNil) sNil) [some (.ref r), none] μ = .exc 1 .non [some (.ref r), none] μ := sif1 (tor1 (tn0 (tb hi))) rfl
      show (match (sIf (tOr (tNot (tV (e1 (opIsi .tuple) (eVar 0)))) (tNot (tV (e1 opAll (eLc [1] (gN 1) (iEA (eVar 0)) tYs (eCall (callF tab (n + 1)) 0 (aCons (eVar 1) aNil))))))) (sCons (sRz 1) sNil) sNil) [some (.ref r), none] μ with | .ok .nx ρ1 μ1 => sNil ρ1 μ1 | r => r) = _
      rw [this]
    rw [hs]; rfl
  have hb : ∀ (ρ : Ev) (b : SF), ρ[0]? = some (some (.ref r)) → (sCons (sE (eCall (callF tab (n + 2)) 1 (aCons (eVar 0) aNil))) b) ρ μ = .exc 1 .non ρ μ := by
    intro ρ b h0
    have : (sE (eCall (callF tab (n + 2)) 1 (aCons (eVar 0) aNil))) ρ μ = .exc 1 .non ρ μ := by
      unfold sE
      rw [qc (qa (qv h0) qn) hc]; rfl
    show (match (sE (eCall (callF tab (n + 2)) 1 (aCons (eVar 0) aNil))) ρ μ with | .ok .nx ρ1 μ1 => b ρ1 μ1 | r => r) = _
    rw [this]
  intro f hf
  rcases hf with e | e | e | e <;> subst e
  · show endV (b_minus_continuant (callF tab (n + 2)) [some (.ref r), none, none, none] μ) = _
    unfold b_minus_continuant; rw [hb _ _ rfl]; rfl
  · show endV (b_plus_continuant (callF tab (n + 2)) [some (.ref r), none, none, none] μ) = _
    unfold b_plus_continuant; rw [hb _ _ rfl]; rfl
  · show endV (b_matrix_of (callF tab (n + 2)) [some (.ref r), none, none] μ) = _
    unfold b_matrix_of; rw [hb _ _ rfl]; rfl
  · show endV (b_plus_matrix (callF tab (n + 2)) [some (.ref r), none, none] μ) = _
    unfold b_plus_matrix; rw [hb _ _ rfl]; rfl
end L_k40
end
section
set_option linter.all false
set_option maxRecDepth 100000
set_option maxHeartbeats 4000000
/-! P4_k40: draws and refusals. -/
namespace L_k40
open PySem Mi
theorem c_draw (n : Nat) (cs : List Int) (s m : Int) (rest : Hq) (hc : cs.length ≤ 63) (hm : 0 < m) (hm2 : m < 1073741824) :
    ∃ v cs' s', 0 ≤ v ∧ v < m ∧ cs'.length ≤ 63 ∧ callF tab (n + 1) 8 [.ref 1, .int m] (TP cs s rest) = .ok (vi v) (TP cs' s' rest) := draw_ok (i := 8) rfl n cs s m rest hc hm hm2
theorem c_pick (n : Nat) (cs : List Int) (s : Int) (rest : Hq) (hc : cs.length ≤ 63) (q : Nat) (items : List D) (hq : ∀ cs s, (TP cs s rest)[q]? = some (.lst items)) (h0 : 0 < items.length) (h1 : items.length < 1000) :
    ∃ (v : Nat) (d : D) (cs' : List Int) (s' : Int), items[v]? = some d ∧ cs'.length ≤ 63 ∧ callF tab (n + 2) 9 [.ref 1, .ref q] (TP cs s rest) = .ok (.val d) (TP cs' s' rest) := by
  obtain ⟨v, cs', s', g1, g2, g3, g4⟩ := c_draw n cs s items.length rest hc (by omega) (by omega)
  have hv : v.toNat < items.length := by omega
  refine ⟨v.toNat, items[v.toNat], cs', s', List.getElem?_eq_getElem hv, g3, ?_⟩
  have hlq : ∀ cs s, lq (TP cs s rest) (.val (.ref q)) = some items := fun cs s => by
    show ((TP cs s rest)[q]?).bind Ob.seq = _
    rw [hq]; rfl
  have hlen : opLen (.val (.ref q)) (TP cs s rest) = .ok (vi items.length) (TP cs s rest) := by
    show (match lq (TP cs s rest) (.val (.ref q)) with | some xs => R.ok (vi xs.length) _ | none => .fail) = _
    rw [hlq]
  have hix : opIxA (.val (.ref q)) (vi v) (TP cs' s' rest) = .ok (.val items[v.toNat]) (TP cs' s' rest) := by
    show (match lq (TP cs' s' rest) (.val (.ref q)) with | some xs => (match at? xs v with | some d => R.ok (Tv.val d) _ | none => .fail) | none => .fail) = _
    rw [hlq]
    have : at? items v = some items[v.toNat] := by
      have := at_nat (xs := items) (j := v.toNat) hv
      rw [Int.toNat_of_nonneg g1] at this
      exact this
    dsimp only
    rw [this]
  show endV (b__law_pick (callF tab (n + 1)) [some (.ref 1), some (.ref q)] (TP cs s rest)) = _
  have : b__law_pick (callF tab (n + 1)) [some (.ref 1), some (.ref q)] (TP cs s rest) = .ok (.rt (.val items[v.toNat])) [some (.ref 1), some (.ref q)] (TP cs' s' rest) := by
    unfold b__law_pick
    exact sr_rt (sret (q2 rfl (qc (qa rfl (qa (q1 rfl hlen) qn)) g4) hix))
  rw [this]; rfl
theorem sc_exc {s t : SF} {ρ ρ1 : Ev} {μ μ1 : Hq} {c : Nat} {p : D} (h : s ρ μ = .exc c p ρ1 μ1) : sCons s t ρ μ = .exc c p ρ1 μ1 := by unfold sCons; rw [h]
theorem sE_exc {e : EF} {ρ : Ev} {μ μ1 : Hq} {c : Nat} {p : D} (h : e ρ μ = .exc c p μ1) : sE e ρ μ = .exc c p ρ μ1 := by unfold sE; rw [h]; rfl
def tryB (cf : CF) : SF := (sCons (sIf (tV (e2 opEq (eVar 3) (eC (.int 0)))) (sCons (sE (eCall cf 2 (aCons (eVar 1) aNil))) sNil) (sCons (sIf (tV (e2 opEq (eVar 3) (eC (.int 1)))) (sCons (sE (eCall cf 3 (aCons (eVar 1) aNil))) sNil) (sCons (sIf (tV (e2 opEq (eVar 3) (eC (.int 2)))) (sCons (sE (eCall cf 5 (aCons (eVar 1) aNil))) sNil) (sCons (sE (eCall cf 6 (aCons (eVar 1) aNil))) sNil)) sNil)) sNil)) sNil)
def turnB (cf : CF) : SF := (sCons (sTry (tryB cf) [(1, true)] (sCons (sAsg (gN 2) (e2 opAdd (eVar 2) (eC (.int 1)))) sNil)) sNil)
theorem turn_ok (n : Nat) (μ : Hq) (bad : D) (hb : four bad n μ) (tp : D) (c t : Int) (ht : t = 0 ∨ t = 1 ∨ t = 2 ∨ t = 3) : turnB (callF tab (n + 3)) [some tp, some bad, some (.int c), some (.int t)] μ = .ok .nx [some tp, some bad, some (.int (c + 1)), some (.int t)] μ := by
  have hE : ∀ (f : Nat) (b : SF), (f = 2 ∨ f = 3 ∨ f = 5 ∨ f = 6) → (sCons (sE (eCall (callF tab (n + 3)) f (aCons (eVar 1) aNil))) b) [some tp, some bad, some (.int c), some (.int t)] μ = .exc 1 .non [some tp, some bad, some (.int c), some (.int t)] μ := fun f b hf => sc_exc (sE_exc (qc (qa rfl qn) (hb f hf)))
  have hin : tryB (callF tab (n + 3)) [some tp, some bad, some (.int c), some (.int t)] μ = .exc 1 .non [some tp, some bad, some (.int c), some (.int t)] μ := by
    unfold tryB
    rcases ht with e | e | e | e <;> subst e
    · exact sc_exc (sif1 (tb rfl) (hE 2 _ (by omega)))
    · exact sc_exc (sif0 (tb rfl) (sc_exc (sif1 (tb rfl) (hE 3 _ (by omega)))))
    · exact sc_exc (sif0 (tb rfl) (sc_exc (sif0 (tb rfl) (sc_exc (sif1 (tb rfl) (hE 5 _ (by omega)))))))
    · exact sc_exc (sif0 (tb rfl) (sc_exc (sif0 (tb rfl) (sc_exc (sif0 (tb rfl) (hE 6 _ (by omega)))))))
  unfold turnB
  refine sc (?_ : sTry _ _ _ _ _ = .ok .nx [some tp, some bad, some (.int (c + 1)), some (.int t)] μ) rfl
  unfold sTry
  rw [hin]; rfl
theorem loop_ok (n : Nat) (μ : Hq) (bad : D) (hb : four bad n μ) (tp : D) : foGo (gN 3) (turnB (callF tab (n + 3))) [.int 0, .int 1, .int 2, .int 3] [some tp, some bad, some (.int 0), none] μ = .ok .nx [some tp, some bad, some (.int 4), some (.int 3)] μ := by
  have st : ∀ (t : Int) (xs : List D) (c : Int) (x : Option D), (t = 0 ∨ t = 1 ∨ t = 2 ∨ t = 3) → foGo (gN 3) (turnB (callF tab (n + 3))) (.int t :: xs) [some tp, some bad, some (.int c), x] μ = foGo (gN 3) (turnB (callF tab (n + 3))) xs [some tp, some bad, some (.int (c + 1)), some (.int t)] μ := fun t xs c x ht => by
    show (match turnB (callF tab (n + 3)) [some tp, some bad, some (.int c), some (.int t)] μ with
      | .ok .nx ρ2 μ2 => foGo (gN 3) (turnB (callF tab (n + 3))) xs ρ2 μ2
      | .ok .ct ρ2 μ2 => foGo (gN 3) (turnB (callF tab (n + 3))) xs ρ2 μ2
      | .ok .bk ρ2 μ2 => .ok .nx ρ2 μ2
      | r => r) = _
    rw [turn_ok n μ bad hb tp c t ht]
  rw [st 0 _ _ _ (by omega), st 1 _ _ _ (by omega), st 2 _ _ _ (by omega), st 3 _ _ _ (by omega)]
  rfl
theorem c_refused (n : Nat) (cs : List Int) (s : Int) (rest : Hq) (hc : cs.length ≤ 63) : ∃ cs' s' rest', cs'.length ≤ 63 ∧ callF tab (n + 4) 14 [.ref 1] (TP cs s rest) = .ok (vb true) (TP cs' s' rest') := by
  let L := rest.length + 2
  let items : List D := [.non, .int 7, .ref L, .tup [.int 1, .non], .tup [.int 1, .bl true], .tup [.str "1"], .tup [.tup [.int 1]]]
  let rest' : Hq := rest ++ [.lst [.int 1, .int 2], .lst items]
  have hq : ∀ cs s, (TP cs s rest')[rest.length + 3]? = some (.lst items) := fun cs s => by
    show (rest ++ [.lst [.int 1, .int 2], .lst items])[rest.length + 1]? = _
    simp
  have hr : ∀ cs s, (TP cs s rest')[L]? = some (.lst [.int 1, .int 2]) := fun cs s => by
    show (rest ++ [.lst [.int 1, .int 2], .lst items])[rest.length]? = _
    simp
  obtain ⟨v, bad, cs', s', g1, g2, g3⟩ := c_pick (n + 1) cs s rest' hc (rest.length + 3) items hq (by simp [items]) (by simp [items])
  have hb : four bad n (TP cs' s' rest') := by
    have hm := List.mem_of_getElem? g1
    simp only [items, List.mem_cons, List.not_mem_nil, or_false] at hm
    rcases hm with e | e | e | e | e | e | e
    · exact bad_val n _ bad (by subst e; simp [bads])
    · exact bad_val n _ bad (by subst e; simp [bads])
    · subst e; exact bad_ref n _ L _ (hr cs' s')
    · exact bad_val n _ bad (by subst e; simp [bads])
    · exact bad_val n _ bad (by subst e; simp [bads])
    · exact bad_val n _ bad (by subst e; simp [bads])
    · exact bad_val n _ bad (by subst e; simp [bads])
  refine ⟨cs', s', rest', g2, ?_⟩
  show endV (b__law_refused (callF tab (n + 3)) [some (.ref 1), none, none, none] (TP cs s rest)) = _
  have hbody : b__law_refused (callF tab (n + 3)) [some (.ref 1), none, none, none] (TP cs s rest) = .ok (.rt (vb true)) [some (.ref 1), some bad, some (.int 4), some (.int 3)] (TP cs' s' rest') := by
    unfold b__law_refused
    refine sc (spar (v := bad) (w := .int 0) (μ1 := TP cs' s' rest') (qa (qc (ds := [.ref 1, .ref (rest.length + 3)]) (μ1 := TP cs s rest') ?_ g3) (qa rfl qn))) (sc (sfor0 (xs := [.int 0, .int 1, .int 2, .int 3]) rfl (loop_ok n _ bad hb (.ref 1))) (sr_rt (sret rfl)))
    refine qa rfl ?_
    have hL : (TP cs s rest).length = L := by simp [TP, L]
    have hL2 : (TP cs s (rest ++ [.lst [.int 1, .int 2]])).length = rest.length + 3 := by simp [TP]
    have e1 : (TP cs s rest) ++ [.lst [.int 1, .int 2]] = TP cs s (rest ++ [.lst [.int 1, .int 2]]) := rfl
    have e2 : (TP cs s (rest ++ [.lst [.int 1, .int 2]])) ++ [.lst items] = TP cs s rest' := by
      show TP cs s ((rest ++ [.lst [.int 1, .int 2]]) ++ [.lst items]) = _
      rw [List.append_assoc]; rfl
    have := qaN (as := aNil) (e := (eLst (aCons (eC .non) (aCons (eC (.int 7)) (aCons (eLst (aCons (eC (.int 1)) (aCons (eC (.int 2)) aNil))) (aCons (eTup (aCons (eC (.int 1)) (aCons (eC .non) aNil))) (aCons (eTup (aCons (eC (.int 1)) (aCons (eC (.bl true)) aNil))) (aCons (eTup (aCons (eC (.str "1")) aNil)) (aCons (eTup (aCons (eTup (aCons (eC (.int 1)) aNil)) aNil)) aNil))))))))) (ρ := [some (.ref 1), none, none, none]) (μ := TP cs s rest) (μ1 := TP cs s (rest ++ [.lst [.int 1, .int 2]])) (o := .lst items) (ds := []) (qlst (ds := items) (qa rfl (qa rfl (?_ : aCons _ _ _ _ = R.ok [.ref L, .tup [.int 1, .non], .tup [.int 1, .bl true], .tup [.str "1"], .tup [.tup [.int 1]]] _))) (by simp [items])) rfl
    · rw [hL2, e2] at this
      exact this
    · have h2 := qaN (e := (eLst (aCons (eC (.int 1)) (aCons (eC (.int 2)) aNil)))) (as := (aCons (eTup (aCons (eC (.int 1)) (aCons (eC .non) aNil))) (aCons (eTup (aCons (eC (.int 1)) (aCons (eC (.bl true)) aNil))) (aCons (eTup (aCons (eC (.str "1")) aNil)) (aCons (eTup (aCons (eTup (aCons (eC (.int 1)) aNil)) aNil)) aNil))))) (ρ := [some (.ref 1), none, none, none]) (μ := TP cs s rest) (μ1 := TP cs s rest) (o := .lst [.int 1, .int 2]) (ds := [.tup [.int 1, .non], .tup [.int 1, .bl true], .tup [.str "1"], .tup [.tup [.int 1]]]) rfl rfl
      rw [hL] at h2
      exact h2
  rw [hbody]; rfl
end L_k40
end
section
set_option linter.all false
set_option maxRecDepth 100000
set_option maxHeartbeats 4000000
/-! P5_k40: the law. -/
namespace L_k40
open PySem Mi
def M7 (x : M4) : Prop := x.a.natAbs ≤ 279936 ∧ x.b.natAbs ≤ 279936 ∧ x.c.natAbs ≤ 279936 ∧ x.d.natAbs ≤ 279936
theorem M7.sm {x : M4} (h : M7 x) : Sm4 x := by
  obtain ⟨h1, h2, h3, h4⟩ := h
  exact ⟨by omega, by omega, by omega, by omega⟩
theorem m7 {ε : Int} (he : ε = 1 ∨ ε = -1) {xs : List Int} (hs : Rw xs) (hl : xs.length ≤ 7) : M7 (mF ε xs) := by
  refine M4.le_of (mF_le ε he xs hs.2 _ rfl) ?_
  have : (6 : Nat) ^ xs.length ≤ 6 ^ 7 := Nat.pow_le_pow_right (by omega) hl
  exact Nat.le_trans this (by decide)
theorem Rw.take {xs : List Int} (h : Rw xs) (k : Nat) : Rw (xs.take k) := ⟨by have := h.1; simp; omega, fun x hx => h.2 x (List.mem_of_mem_take hx)⟩
theorem Rw.drop {xs : List Int} (h : Rw xs) (k : Nat) : Rw (xs.drop k) := ⟨by have := h.1; simp; omega, fun x hx => h.2 x (List.mem_of_mem_drop hx)⟩
theorem Rw.rev {xs : List Int} (h : Rw xs) : Rw xs.reverse := ⟨by have := h.1; simpa using this, fun x hx => h.2 x (by simpa using hx)⟩
/-! slices -/
theorem sl_to {a e : EF} {ρ : Ev} {μ : Hq} {xs : List Int} {k : Int} {j : Nat} (h1 : a ρ μ = .ok (.val (.tup (xs.map D.int))) μ) (h2 : e ρ μ = .ok (vi k) μ) (hj : ptI xs.length xs.length (some k) = j) : eSl a pN (pS e) ρ μ = .ok (.val (.tup ((xs.take j).map D.int))) μ := by
  unfold eSl pN pS
  rw [h1, bind_ok, bind_ok, h2, bind_ok]
  show R.ok (Tv.val (.tup (cutq (xs.map D.int) none (some k)))) μ = _
  have : cutq (xs.map D.int) none (some k) = (xs.take j).map D.int := by
    unfold cutq
    rw [List.length_map, hj]
    show ((xs.map D.int).drop 0).take (j - 0) = _
    rw [List.drop_zero, Nat.sub_zero, List.map_take]
  rw [this]
theorem sl_from {a e : EF} {ρ : Ev} {μ : Hq} {xs : List Int} {k : Int} {j : Nat} (h1 : a ρ μ = .ok (.val (.tup (xs.map D.int))) μ) (h2 : e ρ μ = .ok (vi k) μ) (hj : ptI xs.length 0 (some k) = j) : eSl a (pS e) pN ρ μ = .ok (.val (.tup ((xs.drop j).map D.int))) μ := by
  unfold eSl pN pS
  rw [h1, bind_ok, h2, bind_ok]
  show R.ok (Tv.val (.tup (cutq (xs.map D.int) (some k) none))) μ = _
  have : cutq (xs.map D.int) (some k) none = (xs.drop j).map D.int := by
    unfold cutq
    rw [List.length_map, hj]
    show ((xs.map D.int).drop j).take (xs.length - j) = _
    rw [← List.map_drop]
    exact List.take_of_length_le (by simp)
  rw [this]
theorem sl_both {a e f : EF} {ρ : Ev} {μ : Hq} {xs : List Int} {k l : Int} {i j : Nat} (h1 : a ρ μ = .ok (.val (.tup (xs.map D.int))) μ) (h2 : e ρ μ = .ok (vi k) μ) (h3 : f ρ μ = .ok (vi l) μ) (hi : ptI xs.length 0 (some k) = i) (hj : ptI xs.length xs.length (some l) = j) : eSl a (pS e) (pS f) ρ μ = .ok (.val (.tup (((xs.drop i).take (j - i)).map D.int))) μ := by
  unfold eSl pS
  rw [h1, bind_ok, h2, bind_ok]
  show (((f ρ μ).bind fun x μ1 => _).bind _) = _
  rw [h3, bind_ok]
  show R.ok (Tv.val (.tup (cutq (xs.map D.int) (some k) (some l)))) μ = _
  have : cutq (xs.map D.int) (some k) (some l) = ((xs.drop i).take (j - i)).map D.int := by
    unfold cutq
    rw [List.length_map, hi, hj, List.map_take, List.map_drop]
  rw [this]
theorem rev_row (xs : List Int) (μ : Hq) : opRev (.val (.tup (xs.map D.int))) μ = .ok (.val (.tup (xs.reverse.map D.int))) μ := by
  show R.ok (Tv.val (.tup (xs.map D.int).reverse)) μ = _
  rw [List.map_reverse]
theorem c_minus8 (μ : Hq) (xs : List Int) (hs : Rw xs) : callF tab 11 2 [.tup (xs.map D.int)] μ = .ok (vi (ct (-1) xs)) μ := c_minus 8 μ xs hs
theorem c_plus8 (μ : Hq) (xs : List Int) (hs : Rw xs) : callF tab 11 3 [.tup (xs.map D.int)] μ = .ok (vi (ct 1 xs)) μ := c_plus 8 μ xs hs
theorem ne0 {i j : Int} (h : i = j) (μ : Hq) : opNe (vi i) (vi j) μ = .ok (vb false) μ := by
  show R.ok (vb (!decide (i = j))) μ = _
  rw [decide_eq_true h]; rfl
theorem drop1 (xs : List Int) : xs.drop 1 = xs.tail := by cases xs <;> rfl
theorem tail_init (xs : List Int) (h : 1 < xs.length) : (xs.drop 1).take (xs.length - 1 - 1) = xs.tail.dropLast := by
  rw [drop1, List.dropLast_eq_take]
  congr 1
  rw [List.length_tail]
theorem rw_init {xs : List Int} (h : Rw xs) : Rw xs.dropLast := by rw [List.dropLast_eq_take]; exact h.take _
/-- the row of a turn -/
theorem row_ok (ρ : Ev) (hρ : ρ.length = 10) (h1 : ρ[1]? = some (some (.ref 1))) (cs : List Int) (s : Int) (rest : Hq) (hc : cs.length ≤ 63) :
    ∃ (xs : List Int) (cs' : List Int) (s' : Int), Rw xs ∧ xs.length ≤ 7 ∧ cs'.length ≤ 63 ∧ e1 opTuple (eLc [9] (gN 9) (iRange1 (eCall (callF tab 11) 8 (aCons (eVar 1) (aCons (eC (.int 8)) aNil)))) tYs (e2 opSub (eCall (callF tab 11) 8 (aCons (eVar 1) (aCons (eC (.int 10)) aNil))) (eC (.int 4)))) ρ (TP cs s rest) = .ok (.val (.tup (xs.map D.int))) (TP cs' s' rest) := by
  obtain ⟨v, cs1, s1, g1, g2, g3, g4⟩ := c_draw 10 cs s 8 rest hc (by decide) (by decide)
  obtain ⟨es, μ2, q1', ys, cs2, s2, k1, k2, k3, k4, k5⟩ := lc_st (g := gN 9) (e := e2 opSub (eCall (callF tab 11) 8 (aCons (eVar 1) (aCons (eC (.int 10)) aNil))) (eC (.int 4))) (ρ := Mi.wip ρ [9]) (fun k : Nat => D.int (k : Nat)) (fun pre ds μ => ∃ (ys cs : List Int) (s : Int), ds = ys.map D.int ∧ ys.length = pre.length ∧ (∀ y ∈ ys, -4 ≤ y ∧ y ≤ 5) ∧ cs.length ≤ 63 ∧ μ = TP cs s rest) (List.range v.toNat)
    (fun pre x post e ds μ hp => by
      obtain ⟨ys, cs, s, h2, h3, h4, h5, rfl⟩ := hp
      obtain ⟨w, cs', s', f1, f2, f3, f4⟩ := c_draw 10 cs s 10 rest h5 (by decide) (by decide)
      refine ⟨_, .int (w - 4), TP cs' s' rest, rfl, q2 (qc (qa (qv ?_) (qa rfl qn)) f4) rfl rfl, ys ++ [w - 4], cs', s', by simp [h2], by simp [h3], fun y hy => ?_, f3, rfl⟩
      · simp [Mi.wip, h1]
      · rcases List.mem_append.mp hy with h | h
        · exact h4 y h
        · have : y = w - 4 := by simpa using h
          omega) _ [] rfl [] (TP cs1 s1 rest) ⟨[], cs1, s1, rfl, rfl, by simp, g3, rfl⟩
  refine ⟨ys, cs2, s2, ⟨by rw [k2]; simp; omega, k3⟩, by rw [k2]; simp; omega, k4, ?_⟩
  rw [List.nil_append] at k1
  subst k1 k5
  refine q1 (qlc0 (range1 (n := v.toNat) (by rw [qc (qa (qv h1) (qa rfl qn)) g4, Int.toNat_of_nonneg g1]) (by omega)) q1' (by simp; omega)) rfl
end L_k40
end
section
set_option linter.all false
set_option maxRecDepth 100000
set_option maxHeartbeats 4000000
/-! P6_k40: a turn of the law, and the law. -/
namespace L_k40
open PySem Mi
def st0 : SF := (sAsg (gN 3) (e1 opTuple (eLc [9] (gN 9) (iRange1 (eCall (callF tab 11) 8 (aCons (eVar 1) (aCons (eC (.int 8)) aNil)))) tYs (e2 opSub (eCall (callF tab 11) 8 (aCons (eVar 1) (aCons (eC (.int 10)) aNil))) (eC (.int 4))))))
def st1 : SF := (sIf (tOr (tNot (tV (eCall (callF tab 11) 10 (aCons (eCall (callF tab 11) 2 (aCons (eVar 3) aNil)) (aCons (eCall (callF tab 11) 12 (aCons (eVar 3) (aCons (e1 opNeg (eC (.int 1))) aNil))) aNil))))) (tNot (tV (eCall (callF tab 11) 10 (aCons (eCall (callF tab 11) 3 (aCons (eVar 3) aNil)) (aCons (eCall (callF tab 11) 12 (aCons (eVar 3) (aCons (eC (.int 1)) aNil))) aNil)))))) (sCons (sRet (eC (.bl false))) sNil) sNil)
def st2 : SF := (sIf (tOr (tV (e2 opNe (eCall (callF tab 11) 2 (aCons (e1 opRev (eVar 3)) aNil)) (eCall (callF tab 11) 2 (aCons (eVar 3) aNil)))) (tV (e2 opNe (eCall (callF tab 11) 3 (aCons (e1 opRev (eVar 3)) aNil)) (eCall (callF tab 11) 3 (aCons (eVar 3) aNil))))) (sCons (sRet (eC (.bl false))) sNil) sNil)
def st3 : SF := (sPar 4 5 (aCons (eCall (callF tab 11) 5 (aCons (eVar 3) aNil)) (aCons (eCall (callF tab 11) 6 (aCons (eVar 3) aNil)) aNil)))
def st4 : SF := (sAsg (gT (gsCons (gN 6) (gsCons (gN 7) gsNil))) (eTup (aCons (eTup (aCons (eC (.int 1)) (aCons (eC (.int 0)) (aCons (eC (.int 0)) (aCons (eC (.int 1)) aNil))))) (aCons (eTup (aCons (eC (.int 1)) (aCons (eC (.int 0)) (aCons (eC (.int 0)) (aCons (eC (.int 1)) aNil))))) aNil))))
def st5 : SF := (sFor (gN 8) (iEA (eVar 3)) (sCons (sPar 6 7 (aCons (eCall (callF tab 11) 13 (aCons (eVar 6) (aCons (eTup (aCons (eVar 8) (aCons (e1 opNeg (eC (.int 1))) (aCons (eC (.int 1)) (aCons (eC (.int 0)) aNil))))) aNil))) (aCons (eCall (callF tab 11) 13 (aCons (eVar 7) (aCons (eTup (aCons (eVar 8) (aCons (eC (.int 1)) (aCons (eC (.int 1)) (aCons (eC (.int 0)) aNil))))) aNil))) aNil))) sNil))
def st6 : SF := (sIf (tOr (tNot (tV (eCall (callF tab 11) 10 (aCons (eVar 4) (aCons (eVar 6) aNil))))) (tOr (tNot (tV (eCall (callF tab 11) 10 (aCons (eVar 5) (aCons (eVar 7) aNil))))) (tV (e2 opNe (e2 opSub (e2 opMul (e2 opIxA (eVar 4) (eC (.int 0))) (e2 opIxA (eVar 4) (eC (.int 3)))) (e2 opMul (e2 opIxA (eVar 4) (eC (.int 1))) (e2 opIxA (eVar 4) (eC (.int 2))))) (eC (.int 1)))))) (sCons (sRet (eC (.bl false))) sNil) sNil)
def st7 : SF := (sIf (tV (e2 opNe (e2 opSub (e2 opMul (e2 opIxA (eVar 5) (eC (.int 0))) (e2 opIxA (eVar 5) (eC (.int 3)))) (e2 opMul (e2 opIxA (eVar 5) (eC (.int 1))) (e2 opIxA (eVar 5) (eC (.int 2))))) (eIf (tV (e2 opEq (e2 opAnd1 (e1 opLen (eVar 3)) (eC (.int 1))) (eC (.int 0)))) (eC (.int 1)) (e1 opNeg (eC (.int 1)))))) (sCons (sRet (eC (.bl false))) sNil) sNil)
def st8 : SF := (sIf (tAnd (tV (e2 opGt (e1 opLen (eVar 3)) (eC (.int 1)))) (tV (e2 opNe (eVar 4) (eTup (aCons (eCall (callF tab 11) 2 (aCons (eVar 3) aNil)) (aCons (e1 opNeg (eCall (callF tab 11) 2 (aCons (eSl (eVar 3) pN (pS (e1 opNeg (eC (.int 1))))) aNil))) (aCons (eCall (callF tab 11) 2 (aCons (eSl (eVar 3) (pS (eC (.int 1))) pN) aNil)) (aCons (e1 opNeg (eCall (callF tab 11) 2 (aCons (eSl (eVar 3) (pS (eC (.int 1))) (pS (e1 opNeg (eC (.int 1))))) aNil))) aNil)))))))) (sCons (sRet (eC (.bl false))) sNil) sNil)
def st9 : SF := (sIf (tAnd (tV (e2 opGt (e1 opLen (eVar 3)) (eC (.int 1)))) (tV (e2 opNe (eVar 5) (eTup (aCons (eCall (callF tab 11) 3 (aCons (eVar 3) aNil)) (aCons (eCall (callF tab 11) 3 (aCons (eSl (eVar 3) pN (pS (e1 opNeg (eC (.int 1))))) aNil)) (aCons (eCall (callF tab 11) 3 (aCons (eSl (eVar 3) (pS (eC (.int 1))) pN) aNil)) (aCons (eCall (callF tab 11) 3 (aCons (eSl (eVar 3) (pS (eC (.int 1))) (pS (e1 opNeg (eC (.int 1))))) aNil)) aNil)))))))) (sCons (sRet (eC (.bl false))) sNil) sNil)
def st10 : SF := (sAsg (gN 9) (eCall (callF tab 11) 8 (aCons (eVar 1) (aCons (e2 opAdd (e1 opLen (eVar 3)) (eC (.int 1))) aNil))))
def st11 : SF := (sIf (tOr (tNot (tV (eCall (callF tab 11) 10 (aCons (eCall (callF tab 11) 4 (aCons (eCall (callF tab 11) 5 (aCons (eSl (eVar 3) pN (pS (eVar 9))) aNil)) (aCons (eCall (callF tab 11) 5 (aCons (eSl (eVar 3) (pS (eVar 9)) pN) aNil)) aNil))) (aCons (eVar 4) aNil))))) (tNot (tV (eCall (callF tab 11) 14 (aCons (eVar 1) aNil))))) (sCons (sRet (eC (.bl false))) sNil) sNil)
def turnL : SF := (sCons st0 (sCons st1 (sCons st2 (sCons st3 (sCons st4 (sCons st5 (sCons st6 (sCons st7 (sCons st8 (sCons st9 (sCons st10 (sCons st11 sNil))))))))))))
/-- the slots of a turn -/
def SL (a : D) (x2 : Option D) (xs : List Int) (x4 x5 x6 x7 x8 x9 : Option D) : Ev := [some a, some (.ref 1), x2, some (.tup (xs.map D.int)), x4, x5, x6, x7, x8, x9]
section
variable {a : D} {x2 x3 x4 x5 x6 x7 x8 x9 : Option D} {xs : List Int} {μ : Hq}
theorem t1 (hs : Rw xs) (hl : xs.length ≤ 7) : st1 (SL a x2 xs x4 x5 x6 x7 x8 x9) μ = .ok .nx (SL a x2 xs x4 x5 x6 x7 x8 x9) μ := by
  unfold st1 SL
  refine sif0 (tor0 (tn1 (tb ((qc (qa (qc (qa rfl qn) (c_minus 8 μ xs hs)) (qa (qc (qa rfl (qa rfl qn)) (c_cont 9 μ xs hs hl (-1))) qn)) (c_same_int 10 μ _ _)).trans ?_))) (tn1 (tb ((qc (qa (qc (qa rfl qn) (c_plus 8 μ xs hs)) (qa (qc (qa rfl (qa rfl qn)) (c_cont 9 μ xs hs hl 1)) qn)) (c_same_int 10 μ _ _)).trans ?_)))) rfl
  · rw [ctW_all (-1) (-1) (.inr ⟨rfl, by decide⟩)]; simp
  · rw [ctW_all 1 1 (.inl ⟨rfl, by decide⟩)]; simp
theorem t2 (hs : Rw xs) : st2 (SL a x2 xs x4 x5 x6 x7 x8 x9) μ = .ok .nx (SL a x2 xs x4 x5 x6 x7 x8 x9) μ := by
  unfold st2 SL
  exact sif0 (tor0 (tb (q2 (qc (qa (q1 rfl (rev_row xs μ)) qn) (c_minus 8 μ _ hs.rev)) (qc (qa rfl qn) (c_minus 8 μ xs hs)) (ne0 (ct_rev (-1) _ xs (Nat.le_refl _)) μ))) (tb (q2 (qc (qa (q1 rfl (rev_row xs μ)) qn) (c_plus 8 μ _ hs.rev)) (qc (qa rfl qn) (c_plus 8 μ xs hs)) (ne0 (ct_rev 1 _ xs (Nat.le_refl _)) μ)))) rfl
theorem t3 (hs : Rw xs) : st3 (SL a x2 xs x4 x5 x6 x7 x8 x9) μ = .ok .nx (SL a x2 xs (some (mt (mF (-1) xs))) (some (mt (mF 1 xs))) x6 x7 x8 x9) μ := by
  unfold st3 SL
  exact spar (qa (qc (qa rfl qn) (c_matrix 8 μ xs hs)) (qa (qc (qa rfl qn) (c_plusm 8 μ xs hs)) qn))
theorem t4 : st4 (SL a x2 xs x4 x5 x6 x7 x8 x9) μ = .ok .nx (SL a x2 xs x4 x5 (some (mt .one)) (some (mt .one)) x8 x9) μ := rfl
theorem t5 (hs : Rw xs) : ∃ y8, st5 (SL a x2 xs x4 x5 (some (mt .one)) (some (mt .one)) x8 x9) μ = .ok .nx (SL a x2 xs x4 x5 (some (mt (mF (-1) xs))) (some (mt (mF 1 xs))) y8 x9) μ := by
  let E : List Int → Ev := fun pre => SL a x2 xs x4 x5 (some (mt (mF (-1) pre))) (some (mt (mF 1 pre))) (if pre = [] then x8 else some (.int (pre.getLastD 0))) x9
  refine ⟨if xs = [] then x8 else some (.int (xs.getLastD 0)), ?_⟩
  unfold st5
  refine sfor0 (xs := xs.map D.int) rfl (?_ : foGo _ _ (xs.map D.int) (E []) μ = .ok .nx (E xs) μ)
  refine fo_mem D.int E xs (fun pre x post e => ?_) xs [] rfl
  refine ⟨SL a x2 xs x4 x5 (some (mt (mF (-1) pre))) (some (mt (mF 1 pre))) (some (.int x)) x9, rfl, ?_⟩
  have hx := hs.2 x (by rw [e]; simp)
  refine (sc (spar (qa (qc (qa rfl (qa rfl qn)) (c_ltimes 10 μ (mF (-1) pre) (.it (-1) x) (sm_it (.inr rfl) hx))) (qa (qc (qa rfl (qa rfl qn)) (c_ltimes 10 μ (mF 1 pre) (.it 1 x) (sm_it (.inl rfl) hx))) qn))) rfl).trans ?_
  show RS.ok .nx _ _ = RS.ok .nx (E (pre ++ [x])) _
  simp [E, SL, mF_snoc]
theorem det_ev {ρ : Ev} {i : Nat} {m : M4} (h : ρ[i]? = some (some (mt m))) (hm : Sm4 m) : e2 opSub (e2 opMul (e2 opIxA (eVar i) (eC (.int 0))) (e2 opIxA (eVar i) (eC (.int 3)))) (e2 opMul (e2 opIxA (eVar i) (eC (.int 1))) (e2 opIxA (eVar i) (eC (.int 2)))) ρ μ = .ok (vi m.det) μ := by
  obtain ⟨h1, h2, h3, h4⟩ := hm
  exact q2 (q2 (q2 (qv h) rfl (rfl : _ = R.ok (vi m.a) μ)) (q2 (qv h) rfl (rfl : _ = R.ok (vi m.d) μ)) (mul_small' h4 μ)) (q2 (q2 (qv h) rfl (rfl : _ = R.ok (vi m.b) μ)) (q2 (qv h) rfl (rfl : _ = R.ok (vi m.c) μ)) (mul_small' h3 μ)) rfl
theorem t6 (hs : Rw xs) (hl : xs.length ≤ 7) : st6 (SL a x2 xs (some (mt (mF (-1) xs))) (some (mt (mF 1 xs))) (some (mt (mF (-1) xs))) (some (mt (mF 1 xs))) x8 x9) μ = .ok .nx (SL a x2 xs (some (mt (mF (-1) xs))) (some (mt (mF 1 xs))) (some (mt (mF (-1) xs))) (some (mt (mF 1 xs))) x8 x9) μ := by
  unfold st6 SL
  refine sif0 (tor0 (tn1 (tb (qc (qa rfl (qa rfl qn)) (c_same_mt 9 μ _)))) (tor0 (tn1 (tb (qc (qa rfl (qa rfl qn)) (c_same_mt 9 μ _)))) (tb (q2 (det_ev (i := 4) rfl (m7 (.inr rfl) hs hl).sm) rfl (ne0 (det_mF1 xs) μ))))) rfl
theorem t7 (hs : Rw xs) (hl : xs.length ≤ 7) : st7 (SL a x2 xs x4 (some (mt (mF 1 xs))) x6 x7 x8 x9) μ = .ok .nx (SL a x2 xs x4 (some (mt (mF 1 xs))) x6 x7 x8 x9) μ := by
  unfold st7 SL
  refine sif0 (tb (q2 (y := vi (if xs.length % 2 = 0 then 1 else -1)) (det_ev (i := 5) rfl (m7 (.inl rfl) hs hl).sm) ?_ (ne0 (det_mF2 xs) μ))) rfl
  have hc : tV (e2 opEq (e2 opAnd1 (e1 opLen (eVar 3)) (eC (.int 1))) (eC (.int 0))) [some a, some (.ref 1), x2, some (.tup (xs.map D.int)), x4, some (mt (mF 1 xs)), x6, x7, x8, x9] μ = .ok (decide (xs.length % 2 = 0)) μ := by
    refine tb (q2 (q2 (q1 rfl (row_len xs μ)) rfl rfl) rfl ?_)
    show R.ok (vb (decide ((xs.length : Int) % 2 = 0))) μ = _
    have : ((xs.length : Int) % 2 = 0) ↔ (xs.length % 2 = 0) := by omega
    rw [decide_eq_decide.mpr this]
  refine (qif hc rfl rfl).trans ?_
  by_cases h : xs.length % 2 = 0
  · rw [decide_eq_true h, if_pos h]; rfl
  · rw [decide_eq_false h, if_neg h]; rfl
theorem ptI_nat (n d k : Nat) : ptI n d (some ((k : Nat) : Int)) = min k n := by
  show (if ((k : Nat) : Int) < 0 then (((k : Nat) : Int) + (n : Int)).toNat else min (Int.toNat ((k : Nat) : Int)) n) = _
  rw [if_neg (by omega), Int.toNat_natCast]
theorem ptI_m1 (n d : Nat) : ptI n d (some (-1)) = n - 1 := by
  show (if (-1 : Int) < 0 then (-1 + (n : Int)).toNat else min (Int.toNat (-1)) n) = _
  rw [if_pos (by decide)]; omega
theorem len_gt (ρ : Ev) (h : ρ[3]? = some (some (.tup (xs.map D.int)))) : tV (e2 opGt (e1 opLen (eVar 3)) (eC (.int 1))) ρ μ = .ok (decide (1 < xs.length)) μ := by
  refine tb (q2 (q1 (qv h) (row_len xs μ)) rfl ?_)
  show R.ok (vb (decide ((1 : Int) < (xs.length : Int)))) μ = _
  have : ((1 : Int) < (xs.length : Int)) ↔ (1 < xs.length) := by omega
  rw [decide_eq_decide.mpr this]
theorem sl_a {ρ : Ev} (h : ρ[3]? = some (some (.tup (xs.map D.int)))) (hl : 1 < xs.length) : eSl (eVar 3) pN (pS (e1 opNeg (eC (.int 1)))) ρ μ = .ok (.val (.tup (xs.dropLast.map D.int))) μ := by
  have := sl_to (a := eVar 3) (e := e1 opNeg (eC (.int 1))) (ρ := ρ) (μ := μ) (xs := xs) (k := -1) (j := xs.length - 1) (qv h) rfl (ptI_m1 _ _)
  rw [← List.dropLast_eq_take] at this
  exact this
theorem sl_b {ρ : Ev} (h : ρ[3]? = some (some (.tup (xs.map D.int)))) (hl : 1 < xs.length) : eSl (eVar 3) (pS (eC (.int 1))) pN ρ μ = .ok (.val (.tup (xs.tail.map D.int))) μ := by
  have := sl_from (a := eVar 3) (e := eC (.int 1)) (ρ := ρ) (μ := μ) (xs := xs) (k := 1) (j := 1) (qv h) rfl ((ptI_nat _ _ 1).trans (by omega))
  rw [drop1] at this
  exact this
theorem sl_c {ρ : Ev} (h : ρ[3]? = some (some (.tup (xs.map D.int)))) (hl : 1 < xs.length) : eSl (eVar 3) (pS (eC (.int 1))) (pS (e1 opNeg (eC (.int 1)))) ρ μ = .ok (.val (.tup (xs.tail.dropLast.map D.int))) μ := by
  have := sl_both (a := eVar 3) (e := eC (.int 1)) (f := e1 opNeg (eC (.int 1))) (ρ := ρ) (μ := μ) (xs := xs) (k := 1) (l := -1) (i := 1) (j := xs.length - 1) (qv h) rfl rfl ((ptI_nat _ _ 1).trans (by omega)) (ptI_m1 _ _)
  rw [tail_init xs hl] at this
  exact this
theorem Rw.tl {xs : List Int} (h : Rw xs) : Rw xs.tail := by rw [← drop1]; exact h.drop 1
theorem t8 (hs : Rw xs) : st8 (SL a x2 xs (some (mt (mF (-1) xs))) x5 x6 x7 x8 x9) μ = .ok .nx (SL a x2 xs (some (mt (mF (-1) xs))) x5 x6 x7 x8 x9) μ := by
  unfold st8 SL
  by_cases h : 1 < xs.length
  · have hg := len_gt (xs := xs) (μ := μ) [some a, some (.ref 1), x2, some (.tup (xs.map D.int)), some (mt (mF (-1) xs)), x5, x6, x7, x8, x9] rfl
    rw [decide_eq_true h] at hg
    refine sif0 (tand1 hg (tb (q2 rfl (qtup (qa (qc (qa rfl qn) (c_minus 8 μ xs hs)) (qa (q1 (qc (qa (sl_a rfl h) qn) (c_minus 8 μ _ (rw_init hs))) rfl) (qa (qc (qa (sl_b rfl h) qn) (c_minus 8 μ _ hs.tl)) (qa (q1 (qc (qa (sl_c rfl h) qn) (c_minus 8 μ _ (rw_init hs.tl))) rfl) qn)))) (by simp)) ?_))) rfl
    have e := mF_end (ε := -1) (by decide) xs h
    have e2 : mt (mF (-1) xs) = .tup [.int (ct (-1) xs), .int (-ct (-1) xs.dropLast), .int (ct (-1) xs.tail), .int (-ct (-1) xs.tail.dropLast)] := by
      rw [e]; simp [mt]
    rw [← e2]
    exact ne_mt μ _
  · have hg := len_gt (xs := xs) (μ := μ) [some a, some (.ref 1), x2, some (.tup (xs.map D.int)), some (mt (mF (-1) xs)), x5, x6, x7, x8, x9] rfl
    rw [decide_eq_false h] at hg
    exact sif0 (tand0 hg) rfl
theorem t9 (hs : Rw xs) : st9 (SL a x2 xs x4 (some (mt (mF 1 xs))) x6 x7 x8 x9) μ = .ok .nx (SL a x2 xs x4 (some (mt (mF 1 xs))) x6 x7 x8 x9) μ := by
  unfold st9 SL
  by_cases h : 1 < xs.length
  · have hg := len_gt (xs := xs) (μ := μ) [some a, some (.ref 1), x2, some (.tup (xs.map D.int)), x4, some (mt (mF 1 xs)), x6, x7, x8, x9] rfl
    rw [decide_eq_true h] at hg
    refine sif0 (tand1 hg (tb (q2 rfl (qtup (qa (qc (qa rfl qn) (c_plus 8 μ xs hs)) (qa (qc (qa (sl_a rfl h) qn) (c_plus 8 μ _ (rw_init hs))) (qa (qc (qa (sl_b rfl h) qn) (c_plus 8 μ _ hs.tl)) (qa (qc (qa (sl_c rfl h) qn) (c_plus 8 μ _ (rw_init hs.tl))) qn)))) (by simp)) ?_))) rfl
    have e := mF_end (ε := 1) (by decide) xs h
    have e2 : mt (mF 1 xs) = .tup [.int (ct 1 xs), .int (ct 1 xs.dropLast), .int (ct 1 xs.tail), .int (ct 1 xs.tail.dropLast)] := by
      rw [e]; simp [mt]
    rw [← e2]
    exact ne_mt μ _
  · have hg := len_gt (xs := xs) (μ := μ) [some a, some (.ref 1), x2, some (.tup (xs.map D.int)), x4, some (mt (mF 1 xs)), x6, x7, x8, x9] rfl
    rw [decide_eq_false h] at hg
    exact sif0 (tand0 hg) rfl
theorem t10 (cs : List Int) (s : Int) (rest : Hq) (hc : cs.length ≤ 63) (hl : xs.length ≤ 7) : ∃ (k : Nat) (cs' : List Int) (s' : Int), k ≤ xs.length ∧ cs'.length ≤ 63 ∧ st10 (SL a x2 xs x4 x5 x6 x7 x8 x9) (TP cs s rest) = .ok .nx (SL a x2 xs x4 x5 x6 x7 x8 (some (.int (k : Nat)))) (TP cs' s' rest) := by
  obtain ⟨v, cs', s', g1, g2, g3, g4⟩ := c_draw 10 cs s (xs.length + 1) rest hc (by omega) (by omega)
  refine ⟨v.toNat, cs', s', by omega, g3, ?_⟩
  unfold st10 SL
  rw [Int.toNat_of_nonneg g1]
  exact sasgN (qc (qa rfl (qa (q2 (q1 rfl (row_len xs _)) rfl rfl) qn)) g4)
theorem t11 (hs : Rw xs) (hl : xs.length ≤ 7) (k : Nat) (hk : k ≤ xs.length) (cs : List Int) (s : Int) (rest : Hq) (hc : cs.length ≤ 63) : ∃ (cs' : List Int) (s' : Int) (rest' : Hq), cs'.length ≤ 63 ∧ st11 (SL a x2 xs (some (mt (mF (-1) xs))) x5 x6 x7 x8 (some (.int (k : Nat)))) (TP cs s rest) = .ok .nx (SL a x2 xs (some (mt (mF (-1) xs))) x5 x6 x7 x8 (some (.int (k : Nat)))) (TP cs' s' rest') := by
  obtain ⟨cs', s', rest', g1, g2⟩ := c_refused 7 cs s rest hc
  refine ⟨cs', s', rest', g1, ?_⟩
  unfold st11 SL
  have d1 : (mF (-1) (xs.take k)).mul (mF (-1) (xs.drop k)) = mF (-1) xs := by rw [← mF_append, List.take_append_drop]
  have p1 : ptI xs.length xs.length (some (k : Int)) = k := (ptI_nat _ _ k).trans (by omega)
  have p2 : ptI xs.length 0 (some (k : Int)) = k := (ptI_nat _ _ k).trans (by omega)
  have hm : Sm4 (mF (-1) (xs.drop k)) := (m7 (.inr rfl) (hs.drop k) (by simp; omega)).sm
  have ht := c_times 10 (TP cs s rest) (mF (-1) (xs.take k)) _ hm
  rw [d1] at ht
  exact sif0 (tor0 (tn1 (tb (qc (qa (qc (qa (qc (qa (sl_to rfl rfl p1) qn) (c_matrix 8 _ _ (hs.take k))) (qa (qc (qa (sl_from rfl rfl p2) qn) (c_matrix 8 _ _ (hs.drop k))) qn)) ht) (qa rfl qn)) (c_same_mt 9 _ _)))) (tn1 (tb (qc (qa rfl qn) g2)))) rfl
end
theorem turn_all (a : D) (x2 x3 x4 x5 x6 x7 x8 x9 : Option D) (cs : List Int) (s : Int) (rest : Hq) (hc : cs.length ≤ 63) :
    ∃ y3 y4 y5 y6 y7 y8 y9 cs' s' rest', cs'.length ≤ 63 ∧ turnL [some a, some (.ref 1), x2, x3, x4, x5, x6, x7, x8, x9] (TP cs s rest) = .ok .nx [some a, some (.ref 1), x2, y3, y4, y5, y6, y7, y8, y9] (TP cs' s' rest') := by
  obtain ⟨xs, cs1, s1, hs, hl, hc1, h0⟩ := row_ok [some a, some (.ref 1), x2, x3, x4, x5, x6, x7, x8, x9] rfl rfl cs s rest hc
  obtain ⟨y8, h5⟩ := t5 (a := a) (x2 := x2) (x4 := some (mt (mF (-1) xs))) (x5 := some (mt (mF 1 xs))) (x8 := x8) (x9 := x9) (μ := TP cs1 s1 rest) hs
  obtain ⟨k, cs2, s2, hk, hc2, h10⟩ := t10 (a := a) (x2 := x2) (x4 := some (mt (mF (-1) xs))) (x5 := some (mt (mF 1 xs))) (x6 := some (mt (mF (-1) xs))) (x7 := some (mt (mF 1 xs))) (x8 := y8) (x9 := x9) cs1 s1 rest hc1 hl
  obtain ⟨cs3, s3, rest3, hc3, h11⟩ := t11 (a := a) (x2 := x2) (x5 := some (mt (mF 1 xs))) (x6 := some (mt (mF (-1) xs))) (x7 := some (mt (mF 1 xs))) (x8 := y8) hs hl k hk cs2 s2 rest hc2
  refine ⟨some (.tup (xs.map D.int)), some (mt (mF (-1) xs)), some (mt (mF 1 xs)), some (mt (mF (-1) xs)), some (mt (mF 1 xs)), y8, some (.int (k : Nat)), cs3, s3, rest3, hc3, ?_⟩
  unfold turnL
  exact sc (show st0 _ _ = RS.ok .nx (SL a x2 xs x4 x5 x6 x7 x8 x9) _ from sasgN h0) (sc (t1 hs hl) (sc (t2 hs) (sc (t3 hs) (sc t4 (sc h5 (sc (t6 hs hl) (sc (t7 hs hl) (sc (t8 hs) (sc (t9 hs) (sc h10 (sc h11 rfl)))))))))))
theorem law_true (ns : List Int) (hl : ns.length ≤ 63) : ∃ μ, callF tab 12 15 [.fl (ns.map .int)] [] = .ok (.val (.bl true)) μ := by
  obtain ⟨cs, s, hc, ht⟩ := tape_ok (tab := tab) (i := 7) rfl 10 ns hl
  obtain ⟨ρ2, μ2, hf, y2, y3, y4, y5, y6, y7, y8, y9, cs2, s2, rest2, hρ, hμ, hc2⟩ := fo_st (g := gN 2) (b := turnL) (fun k : Nat => D.int (k : Nat)) (fun (_ : List Nat) ρ μ => ∃ y2 y3 y4 y5 y6 y7 y8 y9 cs s rest, ρ = [some (.fl (ns.map .int)), some (.ref 1), y2, y3, y4, y5, y6, y7, y8, y9] ∧ μ = TP cs s rest ∧ cs.length ≤ 63) [0, 1, 2] (fun pre x post e ρ μ hp => by
      obtain ⟨y2, y3, y4, y5, y6, y7, y8, y9, cs, s, rest, rfl, rfl, hc⟩ := hp
      obtain ⟨z3, z4, z5, z6, z7, z8, z9, cs', s', rest', g1, g2⟩ := turn_all (.fl (ns.map .int)) (some (.int (x : Nat))) y3 y4 y5 y6 y7 y8 y9 cs s rest hc
      exact ⟨_, _, _, _, rfl, g2, _, _, _, _, _, _, _, _, _, _, _, rfl, rfl, g1⟩) [0, 1, 2] [] rfl [some (.fl (ns.map .int)), some (.ref 1), none, none, none, none, none, none, none, none] (TP cs s []) ⟨none, none, none, none, none, none, none, none, cs, s, [], rfl, rfl, hc⟩
  have hb : b_law (callF tab 11) [some (.fl (ns.map .int)), none, none, none, none, none, none, none, none, none] [] = .ok (.rt (vb true)) ρ2 μ2 := by
    unfold b_law
    refine sc (sasgL (qc (qa rfl qn) ht)) (sc (sfor0 (xs := [.int 0, .int 1, .int 2]) rfl hf) (sr_rt (sret rfl)))
  have hp : D.pures [.fl (ns.map .int)] = true := by
    show (D.pures (ns.map .int) && true) = true
    rw [pures_ints]; rfl
  refine ⟨[], ?_⟩
  show (if D.pures [.fl (ns.map .int)] then (alone [] (endV (b_law (callF tab 11) [some (.fl (ns.map .int)), none, none, none, none, none, none, none, none, none] []))).orE (endV (b_law (callF tab 11) [some (.fl (ns.map .int)), none, none, none, none, none, none, none, none, none] [])) else _) = _
  rw [if_pos hp, hb]
  rfl
end L_k40
end
section
set_option Elab.async false
set_option linter.all false
set_option maxRecDepth 100000
set_option maxHeartbeats 4000000
namespace L_k40
open PySem PySem.Spec PyProof.Rows L2 Mi
section
variable {P : Program} {w : World} {K : PySem.W.Frag} {mg : Str → Option Value} {base : Heap} {C : CT}
def topS (i : Nat) : Stmt := PySem.Challenge.pw_friezewright_k40_whole_continuants.main.body.getD i (.Pass ⟨0, 0, 0, 0⟩)
abbrev s_is_integer : Stmt := topS 4
theorem sc_is_integer : FnScope ["value"] ["value"] (defScope s_is_integer) := ⟨rfl, rfl, rfl, by decide +kernel, rfl, by decide +kernel, by decide +kernel⟩
abbrev s_check_integers : Stmt := topS 6
theorem sc_check_integers : FnScope ["row", "item"] ["row"] (defScope s_check_integers) := ⟨rfl, rfl, rfl, by decide +kernel, rfl, by decide +kernel, by decide +kernel⟩
abbrev s_minus_continuant : Stmt := topS 7
theorem sc_minus_continuant : FnScope ["row", "before", "now", "item"] ["row"] (defScope s_minus_continuant) := ⟨rfl, rfl, rfl, by decide +kernel, rfl, by decide +kernel, by decide +kernel⟩
abbrev s_plus_continuant : Stmt := topS 8
theorem sc_plus_continuant : FnScope ["row", "before", "now", "item"] ["row"] (defScope s_plus_continuant) := ⟨rfl, rfl, rfl, by decide +kernel, rfl, by decide +kernel, by decide +kernel⟩
abbrev s_times : Stmt := topS 9
theorem sc_times : FnScope ["one", "other", "a", "b", "c", "d", "e", "f", "g", "h"] ["one", "other"] (defScope s_times) := ⟨rfl, rfl, rfl, by decide +kernel, rfl, by decide +kernel, by decide +kernel⟩
abbrev s_matrix_of : Stmt := topS 10
theorem sc_matrix_of : FnScope ["row", "found", "item"] ["row"] (defScope s_matrix_of) := ⟨rfl, rfl, rfl, by decide +kernel, rfl, by decide +kernel, by decide +kernel⟩
abbrev s_plus_matrix : Stmt := topS 11
theorem sc_plus_matrix : FnScope ["row", "found", "item"] ["row"] (defScope s_plus_matrix) := ⟨rfl, rfl, rfl, by decide +kernel, rfl, by decide +kernel, by decide +kernel⟩
abbrev s__law_tape : Stmt := topS 13
theorem sc__law_tape : FnScope ["script", "seed", "cell"] ["script"] (defScope s__law_tape) := ⟨rfl, rfl, rfl, by decide +kernel, rfl, by decide +kernel, by decide +kernel⟩
abbrev s__law_draw : Stmt := topS 14
theorem sc__law_draw : FnScope ["tape", "many", "cells", "number"] ["tape", "many"] (defScope s__law_draw) := ⟨rfl, rfl, rfl, by decide +kernel, rfl, by decide +kernel, by decide +kernel⟩
abbrev s__law_pick : Stmt := topS 15
theorem sc__law_pick : FnScope ["tape", "row"] ["tape", "row"] (defScope s__law_pick) := ⟨rfl, rfl, rfl, by decide +kernel, rfl, by decide +kernel, by decide +kernel⟩
abbrev s__law_same : Stmt := topS 16
theorem sc__law_same : FnScope ["one", "other", "k"] ["one", "other"] (defScope s__law_same) := ⟨rfl, rfl, rfl, by decide +kernel, rfl, by decide +kernel, by decide +kernel⟩
abbrev s__law_ways : Stmt := topS 17
theorem sc__law_ways : FnScope ["size", "found", "rows", "k", "row"] ["size"] (defScope s__law_ways) := ⟨rfl, rfl, rfl, by decide +kernel, rfl, by decide +kernel, by decide +kernel⟩
abbrev s__law_continuant : Stmt := topS 18
theorem sc__law_continuant : FnScope ["row", "sign", "total", "left", "product", "pairs", "place"] ["row", "sign"] (defScope s__law_continuant) := ⟨rfl, rfl, rfl, by decide +kernel, rfl, by decide +kernel, by decide +kernel⟩
abbrev s__law_times : Stmt := topS 19
theorem sc__law_times : FnScope ["one", "other"] ["one", "other"] (defScope s__law_times) := ⟨rfl, rfl, rfl, by decide +kernel, rfl, by decide +kernel, by decide +kernel⟩
abbrev s__law_refused : Stmt := topS 20
theorem sc__law_refused : FnScope ["tape", "bad", "count", "turn"] ["tape"] (defScope s__law_refused) := ⟨rfl, rfl, rfl, by decide +kernel, rfl, by decide +kernel, by decide +kernel⟩
abbrev s_law : Stmt := topS 21
theorem sc_law : FnScope ["script", "tape", "turn", "row", "whole", "plus", "due", "near", "item", "k"] ["script"] (defScope s_law) := ⟨rfl, rfl, rfl, by decide +kernel, rfl, by decide +kernel, by decide +kernel⟩
/-- names of built-ins, constants of the modules -/
structure Nm (K : PySem.W.Frag) (mg : Str → Option Value) (C : CT) : Prop where
  _u : True
  z_abs : mg "abs" = none
  z_all : mg "all" = none
  z_bool : mg "bool" = none
  z_int : mg "int" = none
  z_isinstance : mg "isinstance" = none
  z_len : mg "len" = none
  z_range : mg "range" = none
  z_str : mg "str" = none
  z_tuple : mg "tuple" = none
  e_BadNumber : ExC K mg C 1 "BadNumber"
  r_BadNumber : TrC K mg C [(1, true)] "BadNumber"
/-- the defs that are called -/
structure Fs (P : Program) (w : World) (K : PySem.W.Frag) (mg : Str → Option Value) (base : Heap) (C : CT) (n : Nat) : Prop where
  _u : True
  f_is_integer : Fk P w K mg base C n (callF tab n) 0 "is_integer"
  f_check_integers : Fk P w K mg base C n (callF tab n) 1 "check_integers"
  f_minus_continuant : Fk P w K mg base C n (callF tab n) 2 "minus_continuant"
  f_plus_continuant : Fk P w K mg base C n (callF tab n) 3 "plus_continuant"
  f_times : Fk P w K mg base C n (callF tab n) 4 "times"
  f_matrix_of : Fk P w K mg base C n (callF tab n) 5 "matrix_of"
  f_plus_matrix : Fk P w K mg base C n (callF tab n) 6 "plus_matrix"
  f__law_tape : Fk P w K mg base C n (callF tab n) 7 "_law_tape"
  f__law_draw : Fk P w K mg base C n (callF tab n) 8 "_law_draw"
  f__law_pick : Fk P w K mg base C n (callF tab n) 9 "_law_pick"
  f__law_same : Fk P w K mg base C n (callF tab n) 10 "_law_same"
  f__law_ways : Fk P w K mg base C n (callF tab n) 11 "_law_ways"
  f__law_continuant : Fk P w K mg base C n (callF tab n) 12 "_law_continuant"
  f__law_times : Fk P w K mg base C n (callF tab n) 13 "_law_times"
  f__law_refused : Fk P w K mg base C n (callF tab n) 14 "_law_refused"
theorem ok_is_integer {n : Nat} {f : Addr} {fd : FuncData} (F0 : Fun K "is_integer" "is_integer" s_is_integer f fd) (T : Nm K mg C) (F : Fs P w K mg base C n) : FnOk P w K mg base (L2.CX P w) (n + 1) f fd ["value"] (spG K C (callF tab (n + 1) 0)) := by
  have S := sc_is_integer
  have z_bool := T.z_bool
  have z_int := T.z_int
  have z_isinstance := T.z_isinstance
  refine fn_ok (fdv := ⟨1, 1, b_is_integer⟩) F0 S rfl rfl rfl fun cdv A outer s H E hr => ?_
  show PSs _ _ (tS _ _ _ (b_is_integer (callF tab n)))
  unfold b_is_integer
  exact (sv_cons (sv_ret (ev_and (ev_isi (t := .int) (ev_var 0 rfl (by first | exact Or.inl rfl | exact Or.inr (Or.inl rfl) | exact Or.inr (Or.inr rfl))) (by rfl) z_isinstance (by rfl) z_int bt_int) (ev_and1 (ev_not (ev_isi (t := .bool) (ev_var 0 rfl (by first | exact Or.inl rfl | exact Or.inr (Or.inl rfl) | exact Or.inr (Or.inr rfl))) (by rfl) z_isinstance (by rfl) z_bool bt_bool)))))
  sv_nil)
theorem ok_check_integers {n : Nat} {f : Addr} {fd : FuncData} (F0 : Fun K "check_integers" "check_integers" s_check_integers f fd) (T : Nm K mg C) (F : Fs P w K mg base C n) : FnOk P w K mg base (L2.CX P w) (n + 1) f fd ["row"] (spG K C (callF tab (n + 1) 1)) := by
  have S := sc_check_integers
  have e_BadNumber := T.e_BadNumber
  have z_all := T.z_all
  have z_isinstance := T.z_isinstance
  have z_tuple := T.z_tuple
  refine fn_ok (fdv := ⟨1, 2, b_check_integers⟩) F0 S rfl rfl rfl fun cdv A outer s H E hr => ?_
  show PSs _ _ (tS _ _ _ (b_check_integers (callF tab n)))
  unfold b_check_integers
  exact (sv_cons (sv_if (PW.pt (tv_or (tv_not (tv_of (ev_isi (t := .tuple) (ev_var 0 rfl (by first | exact Or.inl rfl | exact Or.inr (Or.inl rfl) | exact Or.inr (Or.inr rfl))) (by rfl) z_isinstance (by rfl) z_tuple bt_tuple))) (tv_or1 (tv_not (tv_of (ev_b1 (cr_all rfl) o_all (by rfl) z_all bt_all (ev_lc (own := [("item", 1)]) rfl S.nd (iv_eA (ev_var 0 rfl (by first | exact Or.inl rfl | exact Or.inr (Or.inl rfl) | exact Or.inr (Or.inr rfl)))) (blkOk_by (by show blkC ["row", "item"] (defScope s_check_integers) _ _ = true; decide +kernel)) (glc_name (by decide)) (fun _ _ _ _ _ => (pg_name (i := 1) S.nd rfl (by first | exact Or.inl rfl | exact Or.inr rfl))) (fun _ _ _ _ _ => ts_nil) (fun _ _ _ _ _ => (ev_call 0 F.f_is_integer takes0 hr (by rfl) (av_cons (ev_var 1 rfl (by first | exact Or.inl rfl | exact Or.inr (Or.inl rfl) | exact Or.inr (Or.inr rfl))) av_nil)))))))))) (sv_cons (sv_raiseX e_BadNumber rfl (takes_of rfl rfl rfl rfl) (by rfl))
  sv_nil) sv_nil)
  sv_nil)
theorem ok_minus_continuant {n : Nat} {f : Addr} {fd : FuncData} (F0 : Fun K "minus_continuant" "minus_continuant" s_minus_continuant f fd) (T : Nm K mg C) (F : Fs P w K mg base C n) : FnOk P w K mg base (L2.CX P w) (n + 1) f fd ["row"] (spG K C (callF tab (n + 1) 2)) := by
  have S := sc_minus_continuant
  refine fn_ok (fdv := ⟨1, 4, b_minus_continuant⟩) F0 S rfl rfl rfl fun cdv A outer s H E hr => ?_
  show PSs _ _ (tS _ _ _ (b_minus_continuant (callF tab n)))
  unfold b_minus_continuant
  exact (sv_cons (sv_expr (ev_call 1 F.f_check_integers (takes_of rfl rfl rfl rfl) hr (by rfl) (av_cons (ev_var 0 rfl (by first | exact Or.inl rfl | exact Or.inr (Or.inl rfl) | exact Or.inr (Or.inr rfl))) av_nil)))
  (sv_cons (sv_asg (ev_tup (av_cons ev_int (av_cons ev_int av_nil))) (gv_tup rfl (gvs_cons (gv_name 1 S.nd rfl (by first | exact Or.inl rfl | exact Or.inr rfl)) (gvs_cons (gv_name 2 S.nd rfl (by first | exact Or.inl rfl | exact Or.inr rfl)) gvs_nil)) (gsl_cons (gsl_cons gsl_nil))))
  (sv_cons (sv_for (passes_of rfl) rfl (iv_eA (ev_var 0 rfl (by first | exact Or.inl rfl | exact Or.inr (Or.inl rfl) | exact Or.inr (Or.inr rfl)))) (gv_name 3 S.nd rfl (by first | exact Or.inl rfl | exact Or.inr rfl)) (sv_cons (sv_par 1 2 rfl S.nd rfl rfl (by decide) rfl rfl (av_cons (ev_var 2 rfl (by first | exact Or.inl rfl | exact Or.inr (Or.inl rfl) | exact Or.inr (Or.inr rfl))) (av_cons (ev_bin op_sub o_sub (ev_bin op_mulA o_mul (ev_var 3 rfl (by first | exact Or.inl rfl | exact Or.inr (Or.inl rfl) | exact Or.inr (Or.inr rfl))) (ev_var 2 rfl (by first | exact Or.inl rfl | exact Or.inr (Or.inl rfl) | exact Or.inr (Or.inr rfl)))) (ev_var 1 rfl (by first | exact Or.inl rfl | exact Or.inr (Or.inl rfl) | exact Or.inr (Or.inr rfl)))) av_nil)) (by rfl))
  sv_nil))
  (sv_cons (sv_ret (ev_var 2 rfl (by first | exact Or.inl rfl | exact Or.inr (Or.inl rfl) | exact Or.inr (Or.inr rfl))))
  sv_nil))))
theorem ok_plus_continuant {n : Nat} {f : Addr} {fd : FuncData} (F0 : Fun K "plus_continuant" "plus_continuant" s_plus_continuant f fd) (T : Nm K mg C) (F : Fs P w K mg base C n) : FnOk P w K mg base (L2.CX P w) (n + 1) f fd ["row"] (spG K C (callF tab (n + 1) 3)) := by
  have S := sc_plus_continuant
  refine fn_ok (fdv := ⟨1, 4, b_plus_continuant⟩) F0 S rfl rfl rfl fun cdv A outer s H E hr => ?_
  show PSs _ _ (tS _ _ _ (b_plus_continuant (callF tab n)))
  unfold b_plus_continuant
  exact (sv_cons (sv_expr (ev_call 1 F.f_check_integers (takes_of rfl rfl rfl rfl) hr (by rfl) (av_cons (ev_var 0 rfl (by first | exact Or.inl rfl | exact Or.inr (Or.inl rfl) | exact Or.inr (Or.inr rfl))) av_nil)))
  (sv_cons (sv_asg (ev_tup (av_cons ev_int (av_cons ev_int av_nil))) (gv_tup rfl (gvs_cons (gv_name 1 S.nd rfl (by first | exact Or.inl rfl | exact Or.inr rfl)) (gvs_cons (gv_name 2 S.nd rfl (by first | exact Or.inl rfl | exact Or.inr rfl)) gvs_nil)) (gsl_cons (gsl_cons gsl_nil))))
  (sv_cons (sv_for (passes_of rfl) rfl (iv_eA (ev_var 0 rfl (by first | exact Or.inl rfl | exact Or.inr (Or.inl rfl) | exact Or.inr (Or.inr rfl)))) (gv_name 3 S.nd rfl (by first | exact Or.inl rfl | exact Or.inr rfl)) (sv_cons (sv_par 1 2 rfl S.nd rfl rfl (by decide) rfl rfl (av_cons (ev_var 2 rfl (by first | exact Or.inl rfl | exact Or.inr (Or.inl rfl) | exact Or.inr (Or.inr rfl))) (av_cons (ev_bin op_addA o_add (ev_bin op_mulA o_mul (ev_var 3 rfl (by first | exact Or.inl rfl | exact Or.inr (Or.inl rfl) | exact Or.inr (Or.inr rfl))) (ev_var 2 rfl (by first | exact Or.inl rfl | exact Or.inr (Or.inl rfl) | exact Or.inr (Or.inr rfl)))) (ev_var 1 rfl (by first | exact Or.inl rfl | exact Or.inr (Or.inl rfl) | exact Or.inr (Or.inr rfl)))) av_nil)) (by rfl))
  sv_nil))
  (sv_cons (sv_ret (ev_var 2 rfl (by first | exact Or.inl rfl | exact Or.inr (Or.inl rfl) | exact Or.inr (Or.inr rfl))))
  sv_nil))))
theorem ok_times {n : Nat} {f : Addr} {fd : FuncData} (F0 : Fun K "times" "times" s_times f fd) (T : Nm K mg C) (F : Fs P w K mg base C n) : FnOk P w K mg base (L2.CX P w) (n + 1) f fd ["one", "other"] (spG K C (callF tab (n + 1) 4)) := by
  have S := sc_times
  refine fn_ok (fdv := ⟨2, 10, b_times⟩) F0 S rfl rfl rfl fun cdv A outer s H E hr => ?_
  show PSs _ _ (tS _ _ _ (b_times (callF tab n)))
  unfold b_times
  exact (sv_cons (sv_asg (ev_var 0 rfl (by first | exact Or.inl rfl | exact Or.inr (Or.inl rfl) | exact Or.inr (Or.inr rfl))) (gv_tup rfl (gvs_cons (gv_name 2 S.nd rfl (by first | exact Or.inl rfl | exact Or.inr rfl)) (gvs_cons (gv_name 3 S.nd rfl (by first | exact Or.inl rfl | exact Or.inr rfl)) (gvs_cons (gv_name 4 S.nd rfl (by first | exact Or.inl rfl | exact Or.inr rfl)) (gvs_cons (gv_name 5 S.nd rfl (by first | exact Or.inl rfl | exact Or.inr rfl)) gvs_nil)))) (gsl_cons (gsl_cons (gsl_cons (gsl_cons gsl_nil))))))
  (sv_cons (sv_asg (ev_var 1 rfl (by first | exact Or.inl rfl | exact Or.inr (Or.inl rfl) | exact Or.inr (Or.inr rfl))) (gv_tup rfl (gvs_cons (gv_name 6 S.nd rfl (by first | exact Or.inl rfl | exact Or.inr rfl)) (gvs_cons (gv_name 7 S.nd rfl (by first | exact Or.inl rfl | exact Or.inr rfl)) (gvs_cons (gv_name 8 S.nd rfl (by first | exact Or.inl rfl | exact Or.inr rfl)) (gvs_cons (gv_name 9 S.nd rfl (by first | exact Or.inl rfl | exact Or.inr rfl)) gvs_nil)))) (gsl_cons (gsl_cons (gsl_cons (gsl_cons gsl_nil))))))
  (sv_cons (sv_ret (ev_tup (av_cons (ev_bin op_addA o_add (ev_bin op_mulA o_mul (ev_var 2 rfl (by first | exact Or.inl rfl | exact Or.inr (Or.inl rfl) | exact Or.inr (Or.inr rfl))) (ev_var 6 rfl (by first | exact Or.inl rfl | exact Or.inr (Or.inl rfl) | exact Or.inr (Or.inr rfl)))) (ev_bin op_mulA o_mul (ev_var 3 rfl (by first | exact Or.inl rfl | exact Or.inr (Or.inl rfl) | exact Or.inr (Or.inr rfl))) (ev_var 8 rfl (by first | exact Or.inl rfl | exact Or.inr (Or.inl rfl) | exact Or.inr (Or.inr rfl))))) (av_cons (ev_bin op_addA o_add (ev_bin op_mulA o_mul (ev_var 2 rfl (by first | exact Or.inl rfl | exact Or.inr (Or.inl rfl) | exact Or.inr (Or.inr rfl))) (ev_var 7 rfl (by first | exact Or.inl rfl | exact Or.inr (Or.inl rfl) | exact Or.inr (Or.inr rfl)))) (ev_bin op_mulA o_mul (ev_var 3 rfl (by first | exact Or.inl rfl | exact Or.inr (Or.inl rfl) | exact Or.inr (Or.inr rfl))) (ev_var 9 rfl (by first | exact Or.inl rfl | exact Or.inr (Or.inl rfl) | exact Or.inr (Or.inr rfl))))) (av_cons (ev_bin op_addA o_add (ev_bin op_mulA o_mul (ev_var 4 rfl (by first | exact Or.inl rfl | exact Or.inr (Or.inl rfl) | exact Or.inr (Or.inr rfl))) (ev_var 6 rfl (by first | exact Or.inl rfl | exact Or.inr (Or.inl rfl) | exact Or.inr (Or.inr rfl)))) (ev_bin op_mulA o_mul (ev_var 5 rfl (by first | exact Or.inl rfl | exact Or.inr (Or.inl rfl) | exact Or.inr (Or.inr rfl))) (ev_var 8 rfl (by first | exact Or.inl rfl | exact Or.inr (Or.inl rfl) | exact Or.inr (Or.inr rfl))))) (av_cons (ev_bin op_addA o_add (ev_bin op_mulA o_mul (ev_var 4 rfl (by first | exact Or.inl rfl | exact Or.inr (Or.inl rfl) | exact Or.inr (Or.inr rfl))) (ev_var 7 rfl (by first | exact Or.inl rfl | exact Or.inr (Or.inl rfl) | exact Or.inr (Or.inr rfl)))) (ev_bin op_mulA o_mul (ev_var 5 rfl (by first | exact Or.inl rfl | exact Or.inr (Or.inl rfl) | exact Or.inr (Or.inr rfl))) (ev_var 9 rfl (by first | exact Or.inl rfl | exact Or.inr (Or.inl rfl) | exact Or.inr (Or.inr rfl))))) av_nil))))))
  sv_nil)))
theorem ok_matrix_of {n : Nat} {f : Addr} {fd : FuncData} (F0 : Fun K "matrix_of" "matrix_of" s_matrix_of f fd) (T : Nm K mg C) (F : Fs P w K mg base C n) : FnOk P w K mg base (L2.CX P w) (n + 1) f fd ["row"] (spG K C (callF tab (n + 1) 5)) := by
  have S := sc_matrix_of
  refine fn_ok (fdv := ⟨1, 3, b_matrix_of⟩) F0 S rfl rfl rfl fun cdv A outer s H E hr => ?_
  show PSs _ _ (tS _ _ _ (b_matrix_of (callF tab n)))
  unfold b_matrix_of
  exact (sv_cons (sv_expr (ev_call 1 F.f_check_integers (takes_of rfl rfl rfl rfl) hr (by rfl) (av_cons (ev_var 0 rfl (by first | exact Or.inl rfl | exact Or.inr (Or.inl rfl) | exact Or.inr (Or.inr rfl))) av_nil)))
  (sv_cons (sv_set 1 S.nd rfl (by first | exact Or.inl rfl | exact Or.inr rfl) (ev_tup (av_cons ev_int (av_cons ev_int (av_cons ev_int (av_cons ev_int av_nil))))))
  (sv_cons (sv_for (passes_of rfl) rfl (iv_eA (ev_var 0 rfl (by first | exact Or.inl rfl | exact Or.inr (Or.inl rfl) | exact Or.inr (Or.inr rfl)))) (gv_name 2 S.nd rfl (by first | exact Or.inl rfl | exact Or.inr rfl)) (sv_cons (sv_set 1 S.nd rfl (by first | exact Or.inl rfl | exact Or.inr rfl) (ev_call 4 F.f_times (takes_of rfl rfl rfl rfl) hr (by rfl) (av_cons (ev_var 1 rfl (by first | exact Or.inl rfl | exact Or.inr (Or.inl rfl) | exact Or.inr (Or.inr rfl))) (av_cons (ev_tup (av_cons (ev_var 2 rfl (by first | exact Or.inl rfl | exact Or.inr (Or.inl rfl) | exact Or.inr (Or.inr rfl))) (av_cons (ev_un un_neg o_neg ev_int) (av_cons ev_int (av_cons ev_int av_nil))))) av_nil))))
  sv_nil))
  (sv_cons (sv_ret (ev_var 1 rfl (by first | exact Or.inl rfl | exact Or.inr (Or.inl rfl) | exact Or.inr (Or.inr rfl))))
  sv_nil))))
theorem ok_plus_matrix {n : Nat} {f : Addr} {fd : FuncData} (F0 : Fun K "plus_matrix" "plus_matrix" s_plus_matrix f fd) (T : Nm K mg C) (F : Fs P w K mg base C n) : FnOk P w K mg base (L2.CX P w) (n + 1) f fd ["row"] (spG K C (callF tab (n + 1) 6)) := by
  have S := sc_plus_matrix
  refine fn_ok (fdv := ⟨1, 3, b_plus_matrix⟩) F0 S rfl rfl rfl fun cdv A outer s H E hr => ?_
  show PSs _ _ (tS _ _ _ (b_plus_matrix (callF tab n)))
  unfold b_plus_matrix
  exact (sv_cons (sv_expr (ev_call 1 F.f_check_integers (takes_of rfl rfl rfl rfl) hr (by rfl) (av_cons (ev_var 0 rfl (by first | exact Or.inl rfl | exact Or.inr (Or.inl rfl) | exact Or.inr (Or.inr rfl))) av_nil)))
  (sv_cons (sv_set 1 S.nd rfl (by first | exact Or.inl rfl | exact Or.inr rfl) (ev_tup (av_cons ev_int (av_cons ev_int (av_cons ev_int (av_cons ev_int av_nil))))))
  (sv_cons (sv_for (passes_of rfl) rfl (iv_eA (ev_var 0 rfl (by first | exact Or.inl rfl | exact Or.inr (Or.inl rfl) | exact Or.inr (Or.inr rfl)))) (gv_name 2 S.nd rfl (by first | exact Or.inl rfl | exact Or.inr rfl)) (sv_cons (sv_set 1 S.nd rfl (by first | exact Or.inl rfl | exact Or.inr rfl) (ev_call 4 F.f_times (takes_of rfl rfl rfl rfl) hr (by rfl) (av_cons (ev_var 1 rfl (by first | exact Or.inl rfl | exact Or.inr (Or.inl rfl) | exact Or.inr (Or.inr rfl))) (av_cons (ev_tup (av_cons (ev_var 2 rfl (by first | exact Or.inl rfl | exact Or.inr (Or.inl rfl) | exact Or.inr (Or.inr rfl))) (av_cons ev_int (av_cons ev_int (av_cons ev_int av_nil))))) av_nil))))
  sv_nil))
  (sv_cons (sv_ret (ev_var 1 rfl (by first | exact Or.inl rfl | exact Or.inr (Or.inl rfl) | exact Or.inr (Or.inr rfl))))
  sv_nil))))
theorem ok__law_tape {n : Nat} {f : Addr} {fd : FuncData} (F0 : Fun K "_law_tape" "_law_tape" s__law_tape f fd) (T : Nm K mg C) (F : Fs P w K mg base C n) : FnOk P w K mg base (L2.CX P w) (n + 1) f fd ["script"] (spG K C (callF tab (n + 1) 7)) := by
  have S := sc__law_tape
  have z_abs := T.z_abs
  have z_int := T.z_int
  refine fn_ok (fdv := ⟨1, 3, b__law_tape⟩) F0 S rfl rfl rfl fun cdv A outer s H E hr => ?_
  show PSs _ _ (tS _ _ _ (b__law_tape (callF tab n)))
  unfold b__law_tape
  exact (sv_cons (sv_set 1 S.nd rfl (by first | exact Or.inl rfl | exact Or.inr rfl) ev_int)
  (sv_cons (sv_for (passes_of rfl) rfl (iv_eA (ev_var 0 rfl (by first | exact Or.inl rfl | exact Or.inr (Or.inl rfl) | exact Or.inr (Or.inr rfl)))) (gv_name 2 S.nd rfl (by first | exact Or.inl rfl | exact Or.inr rfl)) (sv_cons (sv_set 1 S.nd rfl (by first | exact Or.inl rfl | exact Or.inr rfl) (ev_bin op_mod o_mod (ev_t1 call_int1 o_int (by rfl) z_int bt_int (ev_bin op_addA o_add (ev_bin op_mulA o_mul (ev_var 1 rfl (by first | exact Or.inl rfl | exact Or.inr (Or.inl rfl) | exact Or.inr (Or.inr rfl))) ev_int) (ev_var 2 rfl (by first | exact Or.inl rfl | exact Or.inr (Or.inl rfl) | exact Or.inr (Or.inr rfl))))) ev_int))
  sv_nil))
  (sv_cons (sv_ret (ev_lst (av_cons (ev_lc (own := [("cell", 2)]) rfl S.nd (iv_eA (ev_var 0 rfl (by first | exact Or.inl rfl | exact Or.inr (Or.inl rfl) | exact Or.inr (Or.inr rfl)))) (blkOk_by (by show blkC ["script", "seed", "cell"] (defScope s__law_tape) _ _ = true; decide +kernel)) (glc_name (by decide)) (fun _ _ _ _ _ => (pg_name (i := 2) S.nd rfl (by first | exact Or.inl rfl | exact Or.inr rfl))) (fun _ _ _ _ _ => ts_nil) (fun _ _ _ _ _ => (ev_b1 call_abs o_abs (by rfl) z_abs bt_abs (ev_t1 call_int1 o_int (by rfl) z_int bt_int (ev_var 2 rfl (by first | exact Or.inl rfl | exact Or.inr (Or.inl rfl) | exact Or.inr (Or.inr rfl))))))) (av_cons (ev_bin op_addA o_add (ev_var 1 rfl (by first | exact Or.inl rfl | exact Or.inr (Or.inl rfl) | exact Or.inr (Or.inr rfl))) ev_int) av_nil))))
  sv_nil)))
theorem ok__law_draw {n : Nat} {f : Addr} {fd : FuncData} (F0 : Fun K "_law_draw" "_law_draw" s__law_draw f fd) (T : Nm K mg C) (F : Fs P w K mg base C n) : FnOk P w K mg base (L2.CX P w) (n + 1) f fd ["tape", "many"] (spG K C (callF tab (n + 1) 8)) := by
  have S := sc__law_draw
  have z_int := T.z_int
  have z_len := T.z_len
  refine fn_ok (fdv := ⟨2, 4, b__law_draw⟩) F0 S rfl rfl rfl fun cdv A outer s H E hr => ?_
  show PSs _ _ (tS _ _ _ (b__law_draw (callF tab n)))
  unfold b__law_draw
  exact (sv_cons (sv_set 2 S.nd rfl (by first | exact Or.inl rfl | exact Or.inr rfl) (ev_ixA (ev_var 0 rfl (by first | exact Or.inl rfl | exact Or.inr (Or.inl rfl) | exact Or.inr (Or.inr rfl))) ev_int (fun _ _ => rfl)))
  (sv_cons (sv_while (passes_of rfl) (PW.pt (tv_and (tv_cmp op_gt o_gt bl_gt (ev_b1 call_len o_len (by rfl) z_len bt_len (ev_var 2 rfl (by first | exact Or.inl rfl | exact Or.inr (Or.inl rfl) | exact Or.inr (Or.inr rfl)))) ev_int (nomark _)) (tv_and1 (tv_cmp (op_eqA (hu64 hr)) o_eq bl_eq (ev_ixA (ev_var 2 rfl (by first | exact Or.inl rfl | exact Or.inr (Or.inl rfl) | exact Or.inr (Or.inr rfl))) ev_int (fun _ _ => rfl)) ev_int (nomark _))))) (sv_cons (sv_expr (ev_popAt (ev_var 2 rfl (by first | exact Or.inl rfl | exact Or.inr (Or.inl rfl) | exact Or.inr (Or.inr rfl))) ev_int))
  sv_nil))
  (sv_cons (sv_if (tv_cmp op_gt o_gt bl_gt (ev_b1 call_len o_len (by rfl) z_len bt_len (ev_var 2 rfl (by first | exact Or.inl rfl | exact Or.inr (Or.inl rfl) | exact Or.inr (Or.inr rfl)))) ev_int (nomark _)) (sv_cons (sv_set 3 S.nd rfl (by first | exact Or.inl rfl | exact Or.inr rfl) (ev_ixA (ev_var 2 rfl (by first | exact Or.inl rfl | exact Or.inr (Or.inl rfl) | exact Or.inr (Or.inr rfl))) ev_int (fun _ _ => rfl)))
  (sv_cons (sv_asg (ev_bin op_div o_div (ev_var 3 rfl (by first | exact Or.inl rfl | exact Or.inr (Or.inl rfl) | exact Or.inr (Or.inr rfl))) (ev_var 1 rfl (by first | exact Or.inl rfl | exact Or.inr (Or.inl rfl) | exact Or.inr (Or.inr rfl)))) (gv_ix (ev_var 2 rfl (by first | exact Or.inl rfl | exact Or.inr (Or.inl rfl) | exact Or.inr (Or.inr rfl))) ev_int))
  (sv_cons (sv_ret (ev_bin op_mod o_mod (ev_t1 call_int1 o_int (by rfl) z_int bt_int (ev_var 3 rfl (by first | exact Or.inl rfl | exact Or.inr (Or.inl rfl) | exact Or.inr (Or.inr rfl)))) (ev_var 1 rfl (by first | exact Or.inl rfl | exact Or.inr (Or.inl rfl) | exact Or.inr (Or.inr rfl)))))
  sv_nil))) sv_nil)
  (sv_cons (sv_asg (ev_bin op_mod o_mod (ev_t1 call_int1 o_int (by rfl) z_int bt_int (ev_bin op_addA o_add (ev_bin op_mulA o_mul (ev_ixA (ev_var 0 rfl (by first | exact Or.inl rfl | exact Or.inr (Or.inl rfl) | exact Or.inr (Or.inr rfl))) ev_int (fun _ _ => rfl)) ev_int) ev_int)) ev_int) (gv_ix (ev_var 0 rfl (by first | exact Or.inl rfl | exact Or.inr (Or.inl rfl) | exact Or.inr (Or.inr rfl))) ev_int))
  (sv_cons (sv_ret (ev_bin op_mod o_mod (ev_t1 call_int1 o_int (by rfl) z_int bt_int (ev_bin op_div o_div (ev_ixA (ev_var 0 rfl (by first | exact Or.inl rfl | exact Or.inr (Or.inl rfl) | exact Or.inr (Or.inr rfl))) ev_int (fun _ _ => rfl)) ev_int)) (ev_var 1 rfl (by first | exact Or.inl rfl | exact Or.inr (Or.inl rfl) | exact Or.inr (Or.inr rfl)))))
  sv_nil)))))
theorem ok__law_pick {n : Nat} {f : Addr} {fd : FuncData} (F0 : Fun K "_law_pick" "_law_pick" s__law_pick f fd) (T : Nm K mg C) (F : Fs P w K mg base C n) : FnOk P w K mg base (L2.CX P w) (n + 1) f fd ["tape", "row"] (spG K C (callF tab (n + 1) 9)) := by
  have S := sc__law_pick
  have z_len := T.z_len
  refine fn_ok (fdv := ⟨2, 2, b__law_pick⟩) F0 S rfl rfl rfl fun cdv A outer s H E hr => ?_
  show PSs _ _ (tS _ _ _ (b__law_pick (callF tab n)))
  unfold b__law_pick
  exact (sv_cons (sv_ret (ev_ixA (ev_var 1 rfl (by first | exact Or.inl rfl | exact Or.inr (Or.inl rfl) | exact Or.inr (Or.inr rfl))) (ev_call 8 F.f__law_draw (takes_of rfl rfl rfl rfl) hr (by rfl) (av_cons (ev_var 0 rfl (by first | exact Or.inl rfl | exact Or.inr (Or.inl rfl) | exact Or.inr (Or.inr rfl))) (av_cons (ev_b1 call_len o_len (by rfl) z_len bt_len (ev_var 1 rfl (by first | exact Or.inl rfl | exact Or.inr (Or.inl rfl) | exact Or.inr (Or.inr rfl)))) av_nil))) (fun _ _ => rfl)))
  sv_nil)
theorem ok__law_same {n : Nat} {f : Addr} {fd : FuncData} (F0 : Fun K "_law_same" "_law_same" s__law_same f fd) (T : Nm K mg C) (F : Fs P w K mg base C n) : FnOk P w K mg base (L2.CX P w) (n + 1) f fd ["one", "other"] (spG K C (callF tab (n + 1) 10)) := by
  have S := sc__law_same
  have z_all := T.z_all
  have z_int := T.z_int
  have z_isinstance := T.z_isinstance
  have z_len := T.z_len
  have z_range := T.z_range
  have z_str := T.z_str
  have z_tuple := T.z_tuple
  refine fn_ok (fdv := ⟨2, 3, b__law_same⟩) F0 S rfl rfl rfl fun cdv A outer s H E hr => ?_
  show PSs _ _ (tS _ _ _ (b__law_same (callF tab n)))
  unfold b__law_same
  exact (sv_cons (sv_if (PW.pt (tv_or (tv_of (ev_isi (t := .tuple) (ev_var 0 rfl (by first | exact Or.inl rfl | exact Or.inr (Or.inl rfl) | exact Or.inr (Or.inr rfl))) (by rfl) z_isinstance (by rfl) z_tuple bt_tuple)) (tv_or1 (tv_of (ev_isi (t := .tuple) (ev_var 1 rfl (by first | exact Or.inl rfl | exact Or.inr (Or.inl rfl) | exact Or.inr (Or.inr rfl))) (by rfl) z_isinstance (by rfl) z_tuple bt_tuple))))) (sv_cons (sv_if (PW.pt (tv_or (tv_not (tv_of (ev_isi (t := .tuple) (ev_var 0 rfl (by first | exact Or.inl rfl | exact Or.inr (Or.inl rfl) | exact Or.inr (Or.inr rfl))) (by rfl) z_isinstance (by rfl) z_tuple bt_tuple))) (tv_or (tv_not (tv_of (ev_isi (t := .tuple) (ev_var 1 rfl (by first | exact Or.inl rfl | exact Or.inr (Or.inl rfl) | exact Or.inr (Or.inr rfl))) (by rfl) z_isinstance (by rfl) z_tuple bt_tuple))) (tv_or1 (tv_cmp (op_neA (hu64 hr)) o_ne bl_ne (ev_b1 call_len o_len (by rfl) z_len bt_len (ev_var 0 rfl (by first | exact Or.inl rfl | exact Or.inr (Or.inl rfl) | exact Or.inr (Or.inr rfl)))) (ev_b1 call_len o_len (by rfl) z_len bt_len (ev_var 1 rfl (by first | exact Or.inl rfl | exact Or.inr (Or.inl rfl) | exact Or.inr (Or.inr rfl)))) (nomark _)))))) (sv_cons (sv_ret ev_bl)
  sv_nil) sv_nil)
  (sv_cons (sv_ret (ev_b1 (cr_all rfl) o_all (by rfl) z_all bt_all (ev_lc (own := [("k", 2)]) rfl S.nd (iv_range1 (by rfl) z_range (ev_b1 call_len o_len (by rfl) z_len bt_len (ev_var 0 rfl (by first | exact Or.inl rfl | exact Or.inr (Or.inl rfl) | exact Or.inr (Or.inr rfl))))) (blkOk_by (by show blkC ["one", "other", "k"] (defScope s__law_same) _ _ = true; decide +kernel)) (glc_name (by decide)) (fun _ _ _ _ _ => (pg_name (i := 2) S.nd rfl (by first | exact Or.inl rfl | exact Or.inr rfl))) (fun _ _ _ _ _ => ts_nil) (fun _ _ _ _ _ => (ev_call 10 F.f__law_same takes0 hr (by rfl) (av_cons (ev_ixA (ev_var 0 rfl (by first | exact Or.inl rfl | exact Or.inr (Or.inl rfl) | exact Or.inr (Or.inr rfl))) (ev_var 2 rfl (by first | exact Or.inl rfl | exact Or.inr (Or.inl rfl) | exact Or.inr (Or.inr rfl))) (fun _ _ => rfl)) (av_cons (ev_ixA (ev_var 1 rfl (by first | exact Or.inl rfl | exact Or.inr (Or.inl rfl) | exact Or.inr (Or.inr rfl))) (ev_var 2 rfl (by first | exact Or.inl rfl | exact Or.inr (Or.inl rfl) | exact Or.inr (Or.inr rfl))) (fun _ _ => rfl)) av_nil)))))))
  sv_nil)) sv_nil)
  (sv_cons (sv_if (PW.pt (tv_or (tv_cmp (op_neA (hu64 hr)) o_ne bl_ne (ev_isi (t := .str) (ev_var 0 rfl (by first | exact Or.inl rfl | exact Or.inr (Or.inl rfl) | exact Or.inr (Or.inr rfl))) (by rfl) z_isinstance (by rfl) z_str bt_str) (ev_isi (t := .str) (ev_var 1 rfl (by first | exact Or.inl rfl | exact Or.inr (Or.inl rfl) | exact Or.inr (Or.inr rfl))) (by rfl) z_isinstance (by rfl) z_str bt_str) (nomark _)) (tv_or1 (tv_cmp (op_neA (hu64 hr)) o_ne bl_ne (ev_isi (t := .int) (ev_var 0 rfl (by first | exact Or.inl rfl | exact Or.inr (Or.inl rfl) | exact Or.inr (Or.inr rfl))) (by rfl) z_isinstance (by rfl) z_int bt_int) (ev_isi (t := .int) (ev_var 1 rfl (by first | exact Or.inl rfl | exact Or.inr (Or.inl rfl) | exact Or.inr (Or.inr rfl))) (by rfl) z_isinstance (by rfl) z_int bt_int) (nomark _))))) (sv_cons (sv_ret ev_bl)
  sv_nil) sv_nil)
  (sv_cons (sv_ret (ev_cmp (op_eqA (hu64 hr)) o_eq (ev_var 0 rfl (by first | exact Or.inl rfl | exact Or.inr (Or.inl rfl) | exact Or.inr (Or.inr rfl))) (ev_var 1 rfl (by first | exact Or.inl rfl | exact Or.inr (Or.inl rfl) | exact Or.inr (Or.inr rfl))) (nomark _)))
  sv_nil)))
theorem ok__law_ways {n : Nat} {f : Addr} {fd : FuncData} (F0 : Fun K "_law_ways" "_law_ways" s__law_ways f fd) (T : Nm K mg C) (F : Fs P w K mg base C n) : FnOk P w K mg base (L2.CX P w) (n + 1) f fd ["size"] (spG K C (callF tab (n + 1) 11)) := by
  have S := sc__law_ways
  have z_range := T.z_range
  refine fn_ok (fdv := ⟨1, 5, b__law_ways⟩) F0 S rfl rfl rfl fun cdv A outer s H E hr => ?_
  show PSs _ _ (tS _ _ _ (b__law_ways (callF tab n)))
  unfold b__law_ways
  exact (sv_cons (sv_set 1 S.nd rfl (by first | exact Or.inl rfl | exact Or.inr rfl) (ev_lst (av_cons (ev_tup av_nil) av_nil)))
  (sv_cons (sv_set 2 S.nd rfl (by first | exact Or.inl rfl | exact Or.inr rfl) (ev_lst (av_cons (ev_lst (av_cons (ev_tup av_nil) av_nil)) (av_cons (ev_lst (av_cons (ev_tup (av_cons ev_int av_nil)) av_nil)) av_nil))))
  (sv_cons (sv_for (passes_of rfl) rfl (iv_range2 (by rfl) z_range ev_int (ev_bin op_addA o_add (ev_var 0 rfl (by first | exact Or.inl rfl | exact Or.inr (Or.inl rfl) | exact Or.inr (Or.inr rfl))) ev_int)) (gv_name 3 S.nd rfl (by first | exact Or.inl rfl | exact Or.inr rfl)) (sv_cons (sv_expr (ev_app (ev_var 2 rfl (by first | exact Or.inl rfl | exact Or.inr (Or.inl rfl) | exact Or.inr (Or.inr rfl))) (ev_bin op_addA o_add (ev_lc (own := [("row", 4)]) rfl S.nd (iv_eA (ev_ixA (ev_var 2 rfl (by first | exact Or.inl rfl | exact Or.inr (Or.inl rfl) | exact Or.inr (Or.inr rfl))) (ev_bin op_sub o_sub (ev_var 3 rfl (by first | exact Or.inl rfl | exact Or.inr (Or.inl rfl) | exact Or.inr (Or.inr rfl))) ev_int) (fun _ _ => rfl))) (blkOk_by (by show blkC ["size", "found", "rows", "k", "row"] (defScope s__law_ways) _ _ = true; decide +kernel)) (glc_name (by decide)) (fun _ _ _ _ _ => (pg_name (i := 4) S.nd rfl (by first | exact Or.inl rfl | exact Or.inr rfl))) (fun _ _ _ _ _ => ts_nil) (fun _ _ _ _ _ => (ev_bin op_addA o_add (ev_var 4 rfl (by first | exact Or.inl rfl | exact Or.inr (Or.inl rfl) | exact Or.inr (Or.inr rfl))) (ev_tup (av_cons (ev_bin op_sub o_sub (ev_var 3 rfl (by first | exact Or.inl rfl | exact Or.inr (Or.inl rfl) | exact Or.inr (Or.inr rfl))) ev_int) av_nil))))) (ev_ixA (ev_var 2 rfl (by first | exact Or.inl rfl | exact Or.inr (Or.inl rfl) | exact Or.inr (Or.inr rfl))) (ev_bin op_sub o_sub (ev_var 3 rfl (by first | exact Or.inl rfl | exact Or.inr (Or.inl rfl) | exact Or.inr (Or.inr rfl))) ev_int) (fun _ _ => rfl)))))
  sv_nil))
  (sv_cons (sv_ret (ev_if (tv_cmp op_gt o_gt bl_gt (ev_var 0 rfl (by first | exact Or.inl rfl | exact Or.inr (Or.inl rfl) | exact Or.inr (Or.inr rfl))) ev_int (nomark _)) (ev_ixA (ev_var 2 rfl (by first | exact Or.inl rfl | exact Or.inr (Or.inl rfl) | exact Or.inr (Or.inr rfl))) (ev_var 0 rfl (by first | exact Or.inl rfl | exact Or.inr (Or.inl rfl) | exact Or.inr (Or.inr rfl))) (fun _ _ => rfl)) (ev_var 1 rfl (by first | exact Or.inl rfl | exact Or.inr (Or.inl rfl) | exact Or.inr (Or.inr rfl)))))
  sv_nil))))
theorem ok__law_continuant {n : Nat} {f : Addr} {fd : FuncData} (F0 : Fun K "_law_continuant" "_law_continuant" s__law_continuant f fd) (T : Nm K mg C) (F : Fs P w K mg base C n) : FnOk P w K mg base (L2.CX P w) (n + 1) f fd ["row", "sign"] (spG K C (callF tab (n + 1) 12)) := by
  have S := sc__law_continuant
  have z_len := T.z_len
  refine fn_ok (fdv := ⟨2, 7, b__law_continuant⟩) F0 S rfl rfl rfl fun cdv A outer s H E hr => ?_
  show PSs _ _ (tS _ _ _ (b__law_continuant (callF tab n)))
  unfold b__law_continuant
  exact (sv_cons (sv_set 2 S.nd rfl (by first | exact Or.inl rfl | exact Or.inr rfl) ev_int)
  (sv_cons (sv_for (passes_of rfl) rfl (iv_eA (ev_call 11 F.f__law_ways (takes_of rfl rfl rfl rfl) hr (by rfl) (av_cons (ev_b1 call_len o_len (by rfl) z_len bt_len (ev_var 0 rfl (by first | exact Or.inl rfl | exact Or.inr (Or.inl rfl) | exact Or.inr (Or.inr rfl)))) av_nil))) (gv_name 3 S.nd rfl (by first | exact Or.inl rfl | exact Or.inr rfl)) (sv_cons (sv_par 4 5 rfl S.nd rfl rfl (by decide) rfl rfl (av_cons ev_int (av_cons (ev_bin op_div o_div (ev_bin op_sub o_sub (ev_b1 call_len o_len (by rfl) z_len bt_len (ev_var 0 rfl (by first | exact Or.inl rfl | exact Or.inr (Or.inl rfl) | exact Or.inr (Or.inr rfl)))) (ev_b1 call_len o_len (by rfl) z_len bt_len (ev_var 3 rfl (by first | exact Or.inl rfl | exact Or.inr (Or.inl rfl) | exact Or.inr (Or.inr rfl))))) ev_int) av_nil)) (by rfl))
  (sv_cons (sv_for (passes_of rfl) rfl (iv_eA (ev_var 3 rfl (by first | exact Or.inl rfl | exact Or.inr (Or.inl rfl) | exact Or.inr (Or.inr rfl)))) (gv_name 6 S.nd rfl (by first | exact Or.inl rfl | exact Or.inr rfl)) (sv_cons (sv_set 4 S.nd rfl (by first | exact Or.inl rfl | exact Or.inr rfl) (ev_bin op_mulA o_mul (ev_var 4 rfl (by first | exact Or.inl rfl | exact Or.inr (Or.inl rfl) | exact Or.inr (Or.inr rfl))) (ev_ixA (ev_var 0 rfl (by first | exact Or.inl rfl | exact Or.inr (Or.inl rfl) | exact Or.inr (Or.inr rfl))) (ev_var 6 rfl (by first | exact Or.inl rfl | exact Or.inr (Or.inl rfl) | exact Or.inr (Or.inr rfl))) (fun _ _ => rfl))))
  sv_nil))
  (sv_cons (sv_set 2 S.nd rfl (by first | exact Or.inl rfl | exact Or.inr rfl) (ev_bin op_addA o_add (ev_var 2 rfl (by first | exact Or.inl rfl | exact Or.inr (Or.inl rfl) | exact Or.inr (Or.inr rfl))) (ev_if (PW.pt (tv_or (tv_cmp op_gt o_gt bl_gt (ev_var 1 rfl (by first | exact Or.inl rfl | exact Or.inr (Or.inl rfl) | exact Or.inr (Or.inr rfl))) ev_int (nomark _)) (tv_or1 (tv_cmp (op_eqA (hu64 hr)) o_eq bl_eq (ev_bin op_and o_and1 (ev_var 5 rfl (by first | exact Or.inl rfl | exact Or.inr (Or.inl rfl) | exact Or.inr (Or.inr rfl))) ev_int) ev_int (nomark _))))) (ev_var 4 rfl (by first | exact Or.inl rfl | exact Or.inr (Or.inl rfl) | exact Or.inr (Or.inr rfl))) (ev_un un_neg o_neg (ev_var 4 rfl (by first | exact Or.inl rfl | exact Or.inr (Or.inl rfl) | exact Or.inr (Or.inr rfl)))))))
  sv_nil))))
  (sv_cons (sv_ret (ev_var 2 rfl (by first | exact Or.inl rfl | exact Or.inr (Or.inl rfl) | exact Or.inr (Or.inr rfl))))
  sv_nil)))
theorem ok__law_times {n : Nat} {f : Addr} {fd : FuncData} (F0 : Fun K "_law_times" "_law_times" s__law_times f fd) (T : Nm K mg C) (F : Fs P w K mg base C n) : FnOk P w K mg base (L2.CX P w) (n + 1) f fd ["one", "other"] (spG K C (callF tab (n + 1) 13)) := by
  have S := sc__law_times
  refine fn_ok (fdv := ⟨2, 2, b__law_times⟩) F0 S rfl rfl rfl fun cdv A outer s H E hr => ?_
  show PSs _ _ (tS _ _ _ (b__law_times (callF tab n)))
  unfold b__law_times
  exact (sv_cons (sv_ret (ev_tup (av_cons (ev_bin op_addA o_add (ev_bin op_mulA o_mul (ev_ixA (ev_var 0 rfl (by first | exact Or.inl rfl | exact Or.inr (Or.inl rfl) | exact Or.inr (Or.inr rfl))) ev_int (fun _ _ => rfl)) (ev_ixA (ev_var 1 rfl (by first | exact Or.inl rfl | exact Or.inr (Or.inl rfl) | exact Or.inr (Or.inr rfl))) ev_int (fun _ _ => rfl))) (ev_bin op_mulA o_mul (ev_ixA (ev_var 0 rfl (by first | exact Or.inl rfl | exact Or.inr (Or.inl rfl) | exact Or.inr (Or.inr rfl))) ev_int (fun _ _ => rfl)) (ev_ixA (ev_var 1 rfl (by first | exact Or.inl rfl | exact Or.inr (Or.inl rfl) | exact Or.inr (Or.inr rfl))) ev_int (fun _ _ => rfl)))) (av_cons (ev_bin op_addA o_add (ev_bin op_mulA o_mul (ev_ixA (ev_var 0 rfl (by first | exact Or.inl rfl | exact Or.inr (Or.inl rfl) | exact Or.inr (Or.inr rfl))) ev_int (fun _ _ => rfl)) (ev_ixA (ev_var 1 rfl (by first | exact Or.inl rfl | exact Or.inr (Or.inl rfl) | exact Or.inr (Or.inr rfl))) ev_int (fun _ _ => rfl))) (ev_bin op_mulA o_mul (ev_ixA (ev_var 0 rfl (by first | exact Or.inl rfl | exact Or.inr (Or.inl rfl) | exact Or.inr (Or.inr rfl))) ev_int (fun _ _ => rfl)) (ev_ixA (ev_var 1 rfl (by first | exact Or.inl rfl | exact Or.inr (Or.inl rfl) | exact Or.inr (Or.inr rfl))) ev_int (fun _ _ => rfl)))) (av_cons (ev_bin op_addA o_add (ev_bin op_mulA o_mul (ev_ixA (ev_var 0 rfl (by first | exact Or.inl rfl | exact Or.inr (Or.inl rfl) | exact Or.inr (Or.inr rfl))) ev_int (fun _ _ => rfl)) (ev_ixA (ev_var 1 rfl (by first | exact Or.inl rfl | exact Or.inr (Or.inl rfl) | exact Or.inr (Or.inr rfl))) ev_int (fun _ _ => rfl))) (ev_bin op_mulA o_mul (ev_ixA (ev_var 0 rfl (by first | exact Or.inl rfl | exact Or.inr (Or.inl rfl) | exact Or.inr (Or.inr rfl))) ev_int (fun _ _ => rfl)) (ev_ixA (ev_var 1 rfl (by first | exact Or.inl rfl | exact Or.inr (Or.inl rfl) | exact Or.inr (Or.inr rfl))) ev_int (fun _ _ => rfl)))) (av_cons (ev_bin op_addA o_add (ev_bin op_mulA o_mul (ev_ixA (ev_var 0 rfl (by first | exact Or.inl rfl | exact Or.inr (Or.inl rfl) | exact Or.inr (Or.inr rfl))) ev_int (fun _ _ => rfl)) (ev_ixA (ev_var 1 rfl (by first | exact Or.inl rfl | exact Or.inr (Or.inl rfl) | exact Or.inr (Or.inr rfl))) ev_int (fun _ _ => rfl))) (ev_bin op_mulA o_mul (ev_ixA (ev_var 0 rfl (by first | exact Or.inl rfl | exact Or.inr (Or.inl rfl) | exact Or.inr (Or.inr rfl))) ev_int (fun _ _ => rfl)) (ev_ixA (ev_var 1 rfl (by first | exact Or.inl rfl | exact Or.inr (Or.inl rfl) | exact Or.inr (Or.inr rfl))) ev_int (fun _ _ => rfl)))) av_nil))))))
  sv_nil)
theorem ok__law_refused {n : Nat} {f : Addr} {fd : FuncData} (F0 : Fun K "_law_refused" "_law_refused" s__law_refused f fd) (T : Nm K mg C) (F : Fs P w K mg base C n) : FnOk P w K mg base (L2.CX P w) (n + 1) f fd ["tape"] (spG K C (callF tab (n + 1) 14)) := by
  have S := sc__law_refused
  have r_BadNumber := T.r_BadNumber
  have z_range := T.z_range
  refine fn_ok (fdv := ⟨1, 4, b__law_refused⟩) F0 S rfl rfl rfl fun cdv A outer s H E hr => ?_
  show PSs _ _ (tS _ _ _ (b__law_refused (callF tab n)))
  unfold b__law_refused
  exact (sv_cons (sv_par 1 2 rfl S.nd rfl rfl (by decide) rfl rfl (av_cons (ev_call 9 F.f__law_pick (takes_of rfl rfl rfl rfl) hr (by rfl) (av_cons (ev_var 0 rfl (by first | exact Or.inl rfl | exact Or.inr (Or.inl rfl) | exact Or.inr (Or.inr rfl))) (av_cons (ev_lst (av_cons ev_non (av_cons ev_int (av_cons (ev_lst (av_cons ev_int (av_cons ev_int av_nil))) (av_cons (ev_tup (av_cons ev_int (av_cons ev_non av_nil))) (av_cons (ev_tup (av_cons ev_int (av_cons ev_bl av_nil))) (av_cons (ev_tup (av_cons ev_str av_nil)) (av_cons (ev_tup (av_cons (ev_tup (av_cons ev_int av_nil)) av_nil)) av_nil)))))))) av_nil))) (av_cons ev_int av_nil)) (by rfl))
  (sv_cons (sv_for (passes_of rfl) rfl (iv_range1 (by rfl) z_range ev_int) (gv_name 3 S.nd rfl (by first | exact Or.inl rfl | exact Or.inr rfl)) (sv_cons (sv_tryX r_BadNumber rfl rfl (by rfl) (takes_of rfl rfl rfl rfl) (fun W1 pn1 xe1 tk1 po1 => (sv_cons (sv_if (tv_cmp (op_eqA (hu64 hr)) o_eq bl_eq (ev_var 3 rfl (by first | exact Or.inl rfl | exact Or.inr (Or.inl rfl) | exact Or.inr (Or.inr rfl))) ev_int (nomark _)) (sv_cons (sv_expr (ev_call 2 F.f_minus_continuant tk1 hr (by rfl) (av_cons (ev_var 1 rfl (by first | exact Or.inl rfl | exact Or.inr (Or.inl rfl) | exact Or.inr (Or.inr rfl))) av_nil)))
  sv_nil) (sv_cons (sv_if (tv_cmp (op_eqA (hu64 hr)) o_eq bl_eq (ev_var 3 rfl (by first | exact Or.inl rfl | exact Or.inr (Or.inl rfl) | exact Or.inr (Or.inr rfl))) ev_int (nomark _)) (sv_cons (sv_expr (ev_call 3 F.f_plus_continuant tk1 hr (by rfl) (av_cons (ev_var 1 rfl (by first | exact Or.inl rfl | exact Or.inr (Or.inl rfl) | exact Or.inr (Or.inr rfl))) av_nil)))
  sv_nil) (sv_cons (sv_if (tv_cmp (op_eqA (hu64 hr)) o_eq bl_eq (ev_var 3 rfl (by first | exact Or.inl rfl | exact Or.inr (Or.inl rfl) | exact Or.inr (Or.inr rfl))) ev_int (nomark _)) (sv_cons (sv_expr (ev_call 5 F.f_matrix_of tk1 hr (by rfl) (av_cons (ev_var 1 rfl (by first | exact Or.inl rfl | exact Or.inr (Or.inl rfl) | exact Or.inr (Or.inr rfl))) av_nil)))
  sv_nil) (sv_cons (sv_expr (ev_call 6 F.f_plus_matrix tk1 hr (by rfl) (av_cons (ev_var 1 rfl (by first | exact Or.inl rfl | exact Or.inr (Or.inl rfl) | exact Or.inr (Or.inr rfl))) av_nil)))
  sv_nil))
  sv_nil))
  sv_nil))
  sv_nil)) (fun _ _ _ _ _ _ _ => (sv_cons (sv_set 2 S.nd rfl (by first | exact Or.inl rfl | exact Or.inr rfl) (ev_bin op_addA o_add (ev_var 2 rfl (by first | exact Or.inl rfl | exact Or.inr (Or.inl rfl) | exact Or.inr (Or.inr rfl))) ev_int))
  sv_nil)))
  sv_nil))
  (sv_cons (sv_ret (ev_cmp (op_eqA (hu64 hr)) o_eq (ev_var 2 rfl (by first | exact Or.inl rfl | exact Or.inr (Or.inl rfl) | exact Or.inr (Or.inr rfl))) ev_int (nomark _)))
  sv_nil)))
theorem ok_law {n : Nat} {f : Addr} {fd : FuncData} (F0 : Fun K "law" "law" s_law f fd) (T : Nm K mg C) (F : Fs P w K mg base C n) : FnOk P w K mg base (L2.CX P w) (n + 1) f fd ["script"] (spG K C (callF tab (n + 1) 15)) := by
  have S := sc_law
  have z_len := T.z_len
  have z_range := T.z_range
  have z_tuple := T.z_tuple
  refine fn_ok (fdv := ⟨1, 10, b_law⟩) F0 S rfl rfl rfl fun cdv A outer s H E hr => ?_
  show PSs _ _ (tS _ _ _ (b_law (callF tab n)))
  unfold b_law
  exact (sv_cons (sv_set 1 S.nd rfl (by first | exact Or.inl rfl | exact Or.inr rfl) (ev_call 7 F.f__law_tape (takes_of rfl rfl rfl rfl) hr (by rfl) (av_cons (ev_var 0 rfl (by first | exact Or.inl rfl | exact Or.inr (Or.inl rfl) | exact Or.inr (Or.inr rfl))) av_nil)))
  (sv_cons (sv_for (passes_of rfl) rfl (iv_range1 (by rfl) z_range ev_int) (gv_name 2 S.nd rfl (by first | exact Or.inl rfl | exact Or.inr rfl)) (sv_cons (sv_set 3 S.nd rfl (by first | exact Or.inl rfl | exact Or.inr rfl) (ev_t1 call_tuple_of o_tuple (by rfl) z_tuple bt_tuple (ev_lc (own := [("k", 9)]) rfl S.nd (iv_range1 (by rfl) z_range (ev_call 8 F.f__law_draw (takes_of rfl rfl rfl rfl) hr (by rfl) (av_cons (ev_var 1 rfl (by first | exact Or.inl rfl | exact Or.inr (Or.inl rfl) | exact Or.inr (Or.inr rfl))) (av_cons ev_int av_nil)))) (blkOk_by (by show blkC ["script", "tape", "turn", "row", "whole", "plus", "due", "near", "item", "k"] (defScope s_law) _ _ = true; decide +kernel)) (glc_name (by decide)) (fun _ _ _ _ _ => (pg_name (i := 9) S.nd rfl (by first | exact Or.inl rfl | exact Or.inr rfl))) (fun _ _ _ _ _ => ts_nil) (fun _ _ _ _ _ => (ev_bin op_sub o_sub (ev_call 8 F.f__law_draw takes0 hr (by rfl) (av_cons (ev_var 1 rfl (by first | exact Or.inl rfl | exact Or.inr (Or.inl rfl) | exact Or.inr (Or.inr rfl))) (av_cons ev_int av_nil))) ev_int)))))
  (sv_cons (sv_if (PW.pt (tv_or (tv_not (tv_of (ev_call 10 F.f__law_same (takes_of rfl rfl rfl rfl) hr (by rfl) (av_cons (ev_call 2 F.f_minus_continuant (takes_of rfl rfl rfl rfl) hr (by rfl) (av_cons (ev_var 3 rfl (by first | exact Or.inl rfl | exact Or.inr (Or.inl rfl) | exact Or.inr (Or.inr rfl))) av_nil)) (av_cons (ev_call 12 F.f__law_continuant (takes_of rfl rfl rfl rfl) hr (by rfl) (av_cons (ev_var 3 rfl (by first | exact Or.inl rfl | exact Or.inr (Or.inl rfl) | exact Or.inr (Or.inr rfl))) (av_cons (ev_un un_neg o_neg ev_int) av_nil))) av_nil))))) (tv_or1 (tv_not (tv_of (ev_call 10 F.f__law_same (takes_of rfl rfl rfl rfl) hr (by rfl) (av_cons (ev_call 3 F.f_plus_continuant (takes_of rfl rfl rfl rfl) hr (by rfl) (av_cons (ev_var 3 rfl (by first | exact Or.inl rfl | exact Or.inr (Or.inl rfl) | exact Or.inr (Or.inr rfl))) av_nil)) (av_cons (ev_call 12 F.f__law_continuant (takes_of rfl rfl rfl rfl) hr (by rfl) (av_cons (ev_var 3 rfl (by first | exact Or.inl rfl | exact Or.inr (Or.inl rfl) | exact Or.inr (Or.inr rfl))) (av_cons ev_int av_nil))) av_nil)))))))) (sv_cons (sv_ret ev_bl)
  sv_nil) sv_nil)
  (sv_cons (sv_if (PW.pt (tv_or (tv_cmp (op_neA (hu64 hr)) o_ne bl_ne (ev_call 2 F.f_minus_continuant (takes_of rfl rfl rfl rfl) hr (by rfl) (av_cons (ev_rev (ev_var 3 rfl (by first | exact Or.inl rfl | exact Or.inr (Or.inl rfl) | exact Or.inr (Or.inr rfl)))) av_nil)) (ev_call 2 F.f_minus_continuant (takes_of rfl rfl rfl rfl) hr (by rfl) (av_cons (ev_var 3 rfl (by first | exact Or.inl rfl | exact Or.inr (Or.inl rfl) | exact Or.inr (Or.inr rfl))) av_nil)) (nomark _)) (tv_or1 (tv_cmp (op_neA (hu64 hr)) o_ne bl_ne (ev_call 3 F.f_plus_continuant (takes_of rfl rfl rfl rfl) hr (by rfl) (av_cons (ev_rev (ev_var 3 rfl (by first | exact Or.inl rfl | exact Or.inr (Or.inl rfl) | exact Or.inr (Or.inr rfl)))) av_nil)) (ev_call 3 F.f_plus_continuant (takes_of rfl rfl rfl rfl) hr (by rfl) (av_cons (ev_var 3 rfl (by first | exact Or.inl rfl | exact Or.inr (Or.inl rfl) | exact Or.inr (Or.inr rfl))) av_nil)) (nomark _))))) (sv_cons (sv_ret ev_bl)
  sv_nil) sv_nil)
  (sv_cons (sv_par 4 5 rfl S.nd rfl rfl (by decide) rfl rfl (av_cons (ev_call 5 F.f_matrix_of (takes_of rfl rfl rfl rfl) hr (by rfl) (av_cons (ev_var 3 rfl (by first | exact Or.inl rfl | exact Or.inr (Or.inl rfl) | exact Or.inr (Or.inr rfl))) av_nil)) (av_cons (ev_call 6 F.f_plus_matrix (takes_of rfl rfl rfl rfl) hr (by rfl) (av_cons (ev_var 3 rfl (by first | exact Or.inl rfl | exact Or.inr (Or.inl rfl) | exact Or.inr (Or.inr rfl))) av_nil)) av_nil)) (by rfl))
  (sv_cons (sv_asg (ev_tup (av_cons (ev_tup (av_cons ev_int (av_cons ev_int (av_cons ev_int (av_cons ev_int av_nil))))) (av_cons (ev_tup (av_cons ev_int (av_cons ev_int (av_cons ev_int (av_cons ev_int av_nil))))) av_nil))) (gv_tup rfl (gvs_cons (gv_name 6 S.nd rfl (by first | exact Or.inl rfl | exact Or.inr rfl)) (gvs_cons (gv_name 7 S.nd rfl (by first | exact Or.inl rfl | exact Or.inr rfl)) gvs_nil)) (gsl_cons (gsl_cons gsl_nil))))
  (sv_cons (sv_for (passes_of rfl) rfl (iv_eA (ev_var 3 rfl (by first | exact Or.inl rfl | exact Or.inr (Or.inl rfl) | exact Or.inr (Or.inr rfl)))) (gv_name 8 S.nd rfl (by first | exact Or.inl rfl | exact Or.inr rfl)) (sv_cons (sv_par 6 7 rfl S.nd rfl rfl (by decide) rfl rfl (av_cons (ev_call 13 F.f__law_times (takes_of rfl rfl rfl rfl) hr (by rfl) (av_cons (ev_var 6 rfl (by first | exact Or.inl rfl | exact Or.inr (Or.inl rfl) | exact Or.inr (Or.inr rfl))) (av_cons (ev_tup (av_cons (ev_var 8 rfl (by first | exact Or.inl rfl | exact Or.inr (Or.inl rfl) | exact Or.inr (Or.inr rfl))) (av_cons (ev_un un_neg o_neg ev_int) (av_cons ev_int (av_cons ev_int av_nil))))) av_nil))) (av_cons (ev_call 13 F.f__law_times (takes_of rfl rfl rfl rfl) hr (by rfl) (av_cons (ev_var 7 rfl (by first | exact Or.inl rfl | exact Or.inr (Or.inl rfl) | exact Or.inr (Or.inr rfl))) (av_cons (ev_tup (av_cons (ev_var 8 rfl (by first | exact Or.inl rfl | exact Or.inr (Or.inl rfl) | exact Or.inr (Or.inr rfl))) (av_cons ev_int (av_cons ev_int (av_cons ev_int av_nil))))) av_nil))) av_nil)) (by rfl))
  sv_nil))
  (sv_cons (sv_if (PW.pt (tv_or (tv_not (tv_of (ev_call 10 F.f__law_same (takes_of rfl rfl rfl rfl) hr (by rfl) (av_cons (ev_var 4 rfl (by first | exact Or.inl rfl | exact Or.inr (Or.inl rfl) | exact Or.inr (Or.inr rfl))) (av_cons (ev_var 6 rfl (by first | exact Or.inl rfl | exact Or.inr (Or.inl rfl) | exact Or.inr (Or.inr rfl))) av_nil))))) (tv_or (tv_not (tv_of (ev_call 10 F.f__law_same (takes_of rfl rfl rfl rfl) hr (by rfl) (av_cons (ev_var 5 rfl (by first | exact Or.inl rfl | exact Or.inr (Or.inl rfl) | exact Or.inr (Or.inr rfl))) (av_cons (ev_var 7 rfl (by first | exact Or.inl rfl | exact Or.inr (Or.inl rfl) | exact Or.inr (Or.inr rfl))) av_nil))))) (tv_or1 (tv_cmp (op_neA (hu64 hr)) o_ne bl_ne (ev_bin op_sub o_sub (ev_bin op_mulA o_mul (ev_ixA (ev_var 4 rfl (by first | exact Or.inl rfl | exact Or.inr (Or.inl rfl) | exact Or.inr (Or.inr rfl))) ev_int (fun _ _ => rfl)) (ev_ixA (ev_var 4 rfl (by first | exact Or.inl rfl | exact Or.inr (Or.inl rfl) | exact Or.inr (Or.inr rfl))) ev_int (fun _ _ => rfl))) (ev_bin op_mulA o_mul (ev_ixA (ev_var 4 rfl (by first | exact Or.inl rfl | exact Or.inr (Or.inl rfl) | exact Or.inr (Or.inr rfl))) ev_int (fun _ _ => rfl)) (ev_ixA (ev_var 4 rfl (by first | exact Or.inl rfl | exact Or.inr (Or.inl rfl) | exact Or.inr (Or.inr rfl))) ev_int (fun _ _ => rfl)))) ev_int (nomark _)))))) (sv_cons (sv_ret ev_bl)
  sv_nil) sv_nil)
  (sv_cons (sv_if (tv_cmp (op_neA (hu64 hr)) o_ne bl_ne (ev_bin op_sub o_sub (ev_bin op_mulA o_mul (ev_ixA (ev_var 5 rfl (by first | exact Or.inl rfl | exact Or.inr (Or.inl rfl) | exact Or.inr (Or.inr rfl))) ev_int (fun _ _ => rfl)) (ev_ixA (ev_var 5 rfl (by first | exact Or.inl rfl | exact Or.inr (Or.inl rfl) | exact Or.inr (Or.inr rfl))) ev_int (fun _ _ => rfl))) (ev_bin op_mulA o_mul (ev_ixA (ev_var 5 rfl (by first | exact Or.inl rfl | exact Or.inr (Or.inl rfl) | exact Or.inr (Or.inr rfl))) ev_int (fun _ _ => rfl)) (ev_ixA (ev_var 5 rfl (by first | exact Or.inl rfl | exact Or.inr (Or.inl rfl) | exact Or.inr (Or.inr rfl))) ev_int (fun _ _ => rfl)))) (ev_if (tv_cmp (op_eqA (hu64 hr)) o_eq bl_eq (ev_bin op_and o_and1 (ev_b1 call_len o_len (by rfl) z_len bt_len (ev_var 3 rfl (by first | exact Or.inl rfl | exact Or.inr (Or.inl rfl) | exact Or.inr (Or.inr rfl)))) ev_int) ev_int (nomark _)) ev_int (ev_un un_neg o_neg ev_int)) (nomark _)) (sv_cons (sv_ret ev_bl)
  sv_nil) sv_nil)
  (sv_cons (sv_if (PW.pt (tv_and (tv_cmp op_gt o_gt bl_gt (ev_b1 call_len o_len (by rfl) z_len bt_len (ev_var 3 rfl (by first | exact Or.inl rfl | exact Or.inr (Or.inl rfl) | exact Or.inr (Or.inr rfl)))) ev_int (nomark _)) (tv_and1 (tv_cmp (op_neA (hu64 hr)) o_ne bl_ne (ev_var 4 rfl (by first | exact Or.inl rfl | exact Or.inr (Or.inl rfl) | exact Or.inr (Or.inr rfl))) (ev_tup (av_cons (ev_call 2 F.f_minus_continuant (takes_of rfl rfl rfl rfl) hr (by rfl) (av_cons (ev_var 3 rfl (by first | exact Or.inl rfl | exact Or.inr (Or.inl rfl) | exact Or.inr (Or.inr rfl))) av_nil)) (av_cons (ev_un un_neg o_neg (ev_call 2 F.f_minus_continuant (takes_of rfl rfl rfl rfl) hr (by rfl) (av_cons (ev_sl (ev_var 3 rfl (by first | exact Or.inl rfl | exact Or.inr (Or.inl rfl) | exact Or.inr (Or.inr rfl))) pv_none (pv_some (ev_un un_neg o_neg ev_int))) av_nil))) (av_cons (ev_call 2 F.f_minus_continuant (takes_of rfl rfl rfl rfl) hr (by rfl) (av_cons (ev_sl (ev_var 3 rfl (by first | exact Or.inl rfl | exact Or.inr (Or.inl rfl) | exact Or.inr (Or.inr rfl))) (pv_some ev_int) pv_none) av_nil)) (av_cons (ev_un un_neg o_neg (ev_call 2 F.f_minus_continuant (takes_of rfl rfl rfl rfl) hr (by rfl) (av_cons (ev_sl (ev_var 3 rfl (by first | exact Or.inl rfl | exact Or.inr (Or.inl rfl) | exact Or.inr (Or.inr rfl))) (pv_some ev_int) (pv_some (ev_un un_neg o_neg ev_int))) av_nil))) av_nil))))) (nomark _))))) (sv_cons (sv_ret ev_bl)
  sv_nil) sv_nil)
  (sv_cons (sv_if (PW.pt (tv_and (tv_cmp op_gt o_gt bl_gt (ev_b1 call_len o_len (by rfl) z_len bt_len (ev_var 3 rfl (by first | exact Or.inl rfl | exact Or.inr (Or.inl rfl) | exact Or.inr (Or.inr rfl)))) ev_int (nomark _)) (tv_and1 (tv_cmp (op_neA (hu64 hr)) o_ne bl_ne (ev_var 5 rfl (by first | exact Or.inl rfl | exact Or.inr (Or.inl rfl) | exact Or.inr (Or.inr rfl))) (ev_tup (av_cons (ev_call 3 F.f_plus_continuant (takes_of rfl rfl rfl rfl) hr (by rfl) (av_cons (ev_var 3 rfl (by first | exact Or.inl rfl | exact Or.inr (Or.inl rfl) | exact Or.inr (Or.inr rfl))) av_nil)) (av_cons (ev_call 3 F.f_plus_continuant (takes_of rfl rfl rfl rfl) hr (by rfl) (av_cons (ev_sl (ev_var 3 rfl (by first | exact Or.inl rfl | exact Or.inr (Or.inl rfl) | exact Or.inr (Or.inr rfl))) pv_none (pv_some (ev_un un_neg o_neg ev_int))) av_nil)) (av_cons (ev_call 3 F.f_plus_continuant (takes_of rfl rfl rfl rfl) hr (by rfl) (av_cons (ev_sl (ev_var 3 rfl (by first | exact Or.inl rfl | exact Or.inr (Or.inl rfl) | exact Or.inr (Or.inr rfl))) (pv_some ev_int) pv_none) av_nil)) (av_cons (ev_call 3 F.f_plus_continuant (takes_of rfl rfl rfl rfl) hr (by rfl) (av_cons (ev_sl (ev_var 3 rfl (by first | exact Or.inl rfl | exact Or.inr (Or.inl rfl) | exact Or.inr (Or.inr rfl))) (pv_some ev_int) (pv_some (ev_un un_neg o_neg ev_int))) av_nil)) av_nil))))) (nomark _))))) (sv_cons (sv_ret ev_bl)
  sv_nil) sv_nil)
  (sv_cons (sv_set 9 S.nd rfl (by first | exact Or.inl rfl | exact Or.inr rfl) (ev_call 8 F.f__law_draw (takes_of rfl rfl rfl rfl) hr (by rfl) (av_cons (ev_var 1 rfl (by first | exact Or.inl rfl | exact Or.inr (Or.inl rfl) | exact Or.inr (Or.inr rfl))) (av_cons (ev_bin op_addA o_add (ev_b1 call_len o_len (by rfl) z_len bt_len (ev_var 3 rfl (by first | exact Or.inl rfl | exact Or.inr (Or.inl rfl) | exact Or.inr (Or.inr rfl)))) ev_int) av_nil))))
  (sv_cons (sv_if (PW.pt (tv_or (tv_not (tv_of (ev_call 10 F.f__law_same (takes_of rfl rfl rfl rfl) hr (by rfl) (av_cons (ev_call 4 F.f_times (takes_of rfl rfl rfl rfl) hr (by rfl) (av_cons (ev_call 5 F.f_matrix_of (takes_of rfl rfl rfl rfl) hr (by rfl) (av_cons (ev_sl (ev_var 3 rfl (by first | exact Or.inl rfl | exact Or.inr (Or.inl rfl) | exact Or.inr (Or.inr rfl))) pv_none (pv_some (ev_var 9 rfl (by first | exact Or.inl rfl | exact Or.inr (Or.inl rfl) | exact Or.inr (Or.inr rfl))))) av_nil)) (av_cons (ev_call 5 F.f_matrix_of (takes_of rfl rfl rfl rfl) hr (by rfl) (av_cons (ev_sl (ev_var 3 rfl (by first | exact Or.inl rfl | exact Or.inr (Or.inl rfl) | exact Or.inr (Or.inr rfl))) (pv_some (ev_var 9 rfl (by first | exact Or.inl rfl | exact Or.inr (Or.inl rfl) | exact Or.inr (Or.inr rfl)))) pv_none) av_nil)) av_nil))) (av_cons (ev_var 4 rfl (by first | exact Or.inl rfl | exact Or.inr (Or.inl rfl) | exact Or.inr (Or.inr rfl))) av_nil))))) (tv_or1 (tv_not (tv_of (ev_call 14 F.f__law_refused (takes_of rfl rfl rfl rfl) hr (by rfl) (av_cons (ev_var 1 rfl (by first | exact Or.inl rfl | exact Or.inr (Or.inl rfl) | exact Or.inr (Or.inr rfl))) av_nil))))))) (sv_cons (sv_ret ev_bl)
  sv_nil) sv_nil)
  sv_nil)))))))))))))
  (sv_cons (sv_ret ev_bl)
  sv_nil)))
/-- every def at every level -/
theorem all_fs {f_is_integer : Addr} {d_is_integer : FuncData} {f_check_integers : Addr} {d_check_integers : FuncData} {f_minus_continuant : Addr} {d_minus_continuant : FuncData} {f_plus_continuant : Addr} {d_plus_continuant : FuncData} {f_times : Addr} {d_times : FuncData} {f_matrix_of : Addr} {d_matrix_of : FuncData} {f_plus_matrix : Addr} {d_plus_matrix : FuncData} {f__law_tape : Addr} {d__law_tape : FuncData} {f__law_draw : Addr} {d__law_draw : FuncData} {f__law_pick : Addr} {d__law_pick : FuncData} {f__law_same : Addr} {d__law_same : FuncData} {f__law_ways : Addr} {d__law_ways : FuncData} {f__law_continuant : Addr} {d__law_continuant : FuncData} {f__law_times : Addr} {d__law_times : FuncData} {f__law_refused : Addr} {d__law_refused : FuncData} (T : Nm K mg C) (F_is_integer : Fun K "is_integer" "is_integer" s_is_integer f_is_integer d_is_integer) (B_is_integer : Binds K d_is_integer ["value"] []) (m_is_integer : mg "is_integer" = some (.ref f_is_integer)) (F_check_integers : Fun K "check_integers" "check_integers" s_check_integers f_check_integers d_check_integers) (B_check_integers : Binds K d_check_integers ["row"] []) (m_check_integers : mg "check_integers" = some (.ref f_check_integers)) (F_minus_continuant : Fun K "minus_continuant" "minus_continuant" s_minus_continuant f_minus_continuant d_minus_continuant) (B_minus_continuant : Binds K d_minus_continuant ["row"] []) (m_minus_continuant : mg "minus_continuant" = some (.ref f_minus_continuant)) (F_plus_continuant : Fun K "plus_continuant" "plus_continuant" s_plus_continuant f_plus_continuant d_plus_continuant) (B_plus_continuant : Binds K d_plus_continuant ["row"] []) (m_plus_continuant : mg "plus_continuant" = some (.ref f_plus_continuant)) (F_times : Fun K "times" "times" s_times f_times d_times) (B_times : Binds K d_times ["one", "other"] []) (m_times : mg "times" = some (.ref f_times)) (F_matrix_of : Fun K "matrix_of" "matrix_of" s_matrix_of f_matrix_of d_matrix_of) (B_matrix_of : Binds K d_matrix_of ["row"] []) (m_matrix_of : mg "matrix_of" = some (.ref f_matrix_of)) (F_plus_matrix : Fun K "plus_matrix" "plus_matrix" s_plus_matrix f_plus_matrix d_plus_matrix) (B_plus_matrix : Binds K d_plus_matrix ["row"] []) (m_plus_matrix : mg "plus_matrix" = some (.ref f_plus_matrix)) (F__law_tape : Fun K "_law_tape" "_law_tape" s__law_tape f__law_tape d__law_tape) (B__law_tape : Binds K d__law_tape ["script"] []) (m__law_tape : mg "_law_tape" = some (.ref f__law_tape)) (F__law_draw : Fun K "_law_draw" "_law_draw" s__law_draw f__law_draw d__law_draw) (B__law_draw : Binds K d__law_draw ["tape", "many"] []) (m__law_draw : mg "_law_draw" = some (.ref f__law_draw)) (F__law_pick : Fun K "_law_pick" "_law_pick" s__law_pick f__law_pick d__law_pick) (B__law_pick : Binds K d__law_pick ["tape", "row"] []) (m__law_pick : mg "_law_pick" = some (.ref f__law_pick)) (F__law_same : Fun K "_law_same" "_law_same" s__law_same f__law_same d__law_same) (B__law_same : Binds K d__law_same ["one", "other"] []) (m__law_same : mg "_law_same" = some (.ref f__law_same)) (F__law_ways : Fun K "_law_ways" "_law_ways" s__law_ways f__law_ways d__law_ways) (B__law_ways : Binds K d__law_ways ["size"] []) (m__law_ways : mg "_law_ways" = some (.ref f__law_ways)) (F__law_continuant : Fun K "_law_continuant" "_law_continuant" s__law_continuant f__law_continuant d__law_continuant) (B__law_continuant : Binds K d__law_continuant ["row", "sign"] []) (m__law_continuant : mg "_law_continuant" = some (.ref f__law_continuant)) (F__law_times : Fun K "_law_times" "_law_times" s__law_times f__law_times d__law_times) (B__law_times : Binds K d__law_times ["one", "other"] []) (m__law_times : mg "_law_times" = some (.ref f__law_times)) (F__law_refused : Fun K "_law_refused" "_law_refused" s__law_refused f__law_refused d__law_refused) (B__law_refused : Binds K d__law_refused ["tape"] []) (m__law_refused : mg "_law_refused" = some (.ref f__law_refused)) : ∀ n, Fs P w K mg base C n
  | 0 => ⟨trivial, fk_of F_is_integer m_is_integer B_is_integer fn_zero, fk_of F_check_integers m_check_integers B_check_integers fn_zero, fk_of F_minus_continuant m_minus_continuant B_minus_continuant fn_zero, fk_of F_plus_continuant m_plus_continuant B_plus_continuant fn_zero, fk_of F_times m_times B_times fn_zero, fk_of F_matrix_of m_matrix_of B_matrix_of fn_zero, fk_of F_plus_matrix m_plus_matrix B_plus_matrix fn_zero, fk_of F__law_tape m__law_tape B__law_tape fn_zero, fk_of F__law_draw m__law_draw B__law_draw fn_zero, fk_of F__law_pick m__law_pick B__law_pick fn_zero, fk_of F__law_same m__law_same B__law_same fn_zero, fk_of F__law_ways m__law_ways B__law_ways fn_zero, fk_of F__law_continuant m__law_continuant B__law_continuant fn_zero, fk_of F__law_times m__law_times B__law_times fn_zero, fk_of F__law_refused m__law_refused B__law_refused fn_zero⟩
  | n + 1 => by
    have F := all_fs T F_is_integer B_is_integer m_is_integer F_check_integers B_check_integers m_check_integers F_minus_continuant B_minus_continuant m_minus_continuant F_plus_continuant B_plus_continuant m_plus_continuant F_times B_times m_times F_matrix_of B_matrix_of m_matrix_of F_plus_matrix B_plus_matrix m_plus_matrix F__law_tape B__law_tape m__law_tape F__law_draw B__law_draw m__law_draw F__law_pick B__law_pick m__law_pick F__law_same B__law_same m__law_same F__law_ways B__law_ways m__law_ways F__law_continuant B__law_continuant m__law_continuant F__law_times B__law_times m__law_times F__law_refused B__law_refused m__law_refused n
    exact ⟨trivial, fk_of F_is_integer m_is_integer B_is_integer (ok_is_integer F_is_integer T F), fk_of F_check_integers m_check_integers B_check_integers (ok_check_integers F_check_integers T F), fk_of F_minus_continuant m_minus_continuant B_minus_continuant (ok_minus_continuant F_minus_continuant T F), fk_of F_plus_continuant m_plus_continuant B_plus_continuant (ok_plus_continuant F_plus_continuant T F), fk_of F_times m_times B_times (ok_times F_times T F), fk_of F_matrix_of m_matrix_of B_matrix_of (ok_matrix_of F_matrix_of T F), fk_of F_plus_matrix m_plus_matrix B_plus_matrix (ok_plus_matrix F_plus_matrix T F), fk_of F__law_tape m__law_tape B__law_tape (ok__law_tape F__law_tape T F), fk_of F__law_draw m__law_draw B__law_draw (ok__law_draw F__law_draw T F), fk_of F__law_pick m__law_pick B__law_pick (ok__law_pick F__law_pick T F), fk_of F__law_same m__law_same B__law_same (ok__law_same F__law_same T F), fk_of F__law_ways m__law_ways B__law_ways (ok__law_ways F__law_ways T F), fk_of F__law_continuant m__law_continuant B__law_continuant (ok__law_continuant F__law_continuant T F), fk_of F__law_times m__law_times B__law_times (ok__law_times F__law_times T F), fk_of F__law_refused m__law_refused B__law_refused (ok__law_refused F__law_refused T F)⟩
end
def ctab (as : List (Nat × Addr)) : CT := fun n => match as.lookup n with | some a => (.ref a, "") | none => (.none, "")
theorem all_mk {l : PySem.W.OpenLaw} {w : World} {K : PySem.W.Frag} {h : Heap} {mg : Str → Option Value} {fa f_is_integer f_check_integers f_minus_continuant f_plus_continuant f_times f_matrix_of f_plus_matrix f__law_tape f__law_draw f__law_pick f__law_same f__law_ways f__law_continuant f__law_times f__law_refused f_law k_BadNumber : Addr} (X : K.In h) (G : h.Ns mainGlobals mg) (hfa : mg "law" = some (.ref fa))
    {od_is_integer od_check_integers od_minus_continuant od_plus_continuant od_times od_matrix_of od_plus_matrix od__law_tape od__law_draw od__law_pick od__law_same od__law_ways od__law_continuant od__law_times od__law_refused od_law an_is_integer an_check_integers an_minus_continuant an_plus_continuant an_times an_matrix_of an_plus_matrix an__law_tape an__law_draw an__law_pick an__law_same an__law_ways an__law_continuant an__law_times an__law_refused an_law : Option Addr} {sl_is_integer sl_check_integers sl_minus_continuant sl_plus_continuant sl_times sl_matrix_of sl_plus_matrix sl__law_tape sl__law_draw sl__law_pick sl__law_same sl__law_ways sl__law_continuant sl__law_times sl__law_refused sl_law : Array (Option Value)} {oc_is_integer oc_check_integers oc_minus_continuant oc_plus_continuant oc_times oc_matrix_of oc_plus_matrix oc__law_tape oc__law_draw oc__law_pick oc__law_same oc__law_ways oc__law_continuant oc__law_times oc__law_refused oc_law kV_is_integer kV_check_integers kV_minus_continuant kV_plus_continuant kV_times kV_matrix_of kV_plus_matrix kV__law_tape kV__law_draw kV__law_pick kV__law_same kV__law_ways kV__law_continuant kV__law_times kV__law_refused kV_law dc_is_integer dc_check_integers dc_minus_continuant dc_plus_continuant dc_times dc_matrix_of dc_plus_matrix dc__law_tape dc__law_draw dc__law_pick dc__law_same dc__law_ways dc__law_continuant dc__law_times dc__law_refused dc_law pm_is_integer pm_check_integers pm_minus_continuant pm_plus_continuant pm_times pm_matrix_of pm_plus_matrix pm__law_tape pm__law_draw pm__law_pick pm__law_same pm__law_ways pm__law_continuant pm__law_times pm__law_refused pm_law cd_is_integer cd_check_integers cd_minus_continuant cd_plus_continuant cd_times cd_matrix_of cd_plus_matrix cd__law_tape cd__law_draw cd__law_pick cd__law_same cd__law_ways cd__law_continuant cd__law_times cd__law_refused cd_law ct_is_integer ct_check_integers ct_minus_continuant ct_plus_continuant ct_times ct_matrix_of ct_plus_matrix ct__law_tape ct__law_draw ct__law_pick ct__law_same ct__law_ways ct__law_continuant ct__law_times ct__law_refused ct_law : Value}
    (a_is_integer : PySem.W.nsIn K mainGlobals "is_integer" = some (some (.ref f_is_integer))) (l_is_integer : K.lookup f_is_integer = some ⟨oc_is_integer, od_is_integer, .func (PySem.W.fnOf "is_integer" "is_integer" (defArgs s_is_integer) (defBody s_is_integer) (defScope s_is_integer) .none kV_is_integer dc_is_integer pm_is_integer an_is_integer cd_is_integer ct_is_integer), sl_is_integer⟩) (c_is_integer : PySem.W.codeIn K cd_is_integer "is_integer" = true) (k_is_integer : PySem.W.keepIn K (.ref f_is_integer) = true)
    (a_check_integers : PySem.W.nsIn K mainGlobals "check_integers" = some (some (.ref f_check_integers))) (l_check_integers : K.lookup f_check_integers = some ⟨oc_check_integers, od_check_integers, .func (PySem.W.fnOf "check_integers" "check_integers" (defArgs s_check_integers) (defBody s_check_integers) (defScope s_check_integers) .none kV_check_integers dc_check_integers pm_check_integers an_check_integers cd_check_integers ct_check_integers), sl_check_integers⟩) (c_check_integers : PySem.W.codeIn K cd_check_integers "check_integers" = true) (k_check_integers : PySem.W.keepIn K (.ref f_check_integers) = true)
    (a_minus_continuant : PySem.W.nsIn K mainGlobals "minus_continuant" = some (some (.ref f_minus_continuant))) (l_minus_continuant : K.lookup f_minus_continuant = some ⟨oc_minus_continuant, od_minus_continuant, .func (PySem.W.fnOf "minus_continuant" "minus_continuant" (defArgs s_minus_continuant) (defBody s_minus_continuant) (defScope s_minus_continuant) .none kV_minus_continuant dc_minus_continuant pm_minus_continuant an_minus_continuant cd_minus_continuant ct_minus_continuant), sl_minus_continuant⟩) (c_minus_continuant : PySem.W.codeIn K cd_minus_continuant "minus_continuant" = true) (k_minus_continuant : PySem.W.keepIn K (.ref f_minus_continuant) = true)
    (a_plus_continuant : PySem.W.nsIn K mainGlobals "plus_continuant" = some (some (.ref f_plus_continuant))) (l_plus_continuant : K.lookup f_plus_continuant = some ⟨oc_plus_continuant, od_plus_continuant, .func (PySem.W.fnOf "plus_continuant" "plus_continuant" (defArgs s_plus_continuant) (defBody s_plus_continuant) (defScope s_plus_continuant) .none kV_plus_continuant dc_plus_continuant pm_plus_continuant an_plus_continuant cd_plus_continuant ct_plus_continuant), sl_plus_continuant⟩) (c_plus_continuant : PySem.W.codeIn K cd_plus_continuant "plus_continuant" = true) (k_plus_continuant : PySem.W.keepIn K (.ref f_plus_continuant) = true)
    (a_times : PySem.W.nsIn K mainGlobals "times" = some (some (.ref f_times))) (l_times : K.lookup f_times = some ⟨oc_times, od_times, .func (PySem.W.fnOf "times" "times" (defArgs s_times) (defBody s_times) (defScope s_times) .none kV_times dc_times pm_times an_times cd_times ct_times), sl_times⟩) (c_times : PySem.W.codeIn K cd_times "times" = true) (k_times : PySem.W.keepIn K (.ref f_times) = true)
    (a_matrix_of : PySem.W.nsIn K mainGlobals "matrix_of" = some (some (.ref f_matrix_of))) (l_matrix_of : K.lookup f_matrix_of = some ⟨oc_matrix_of, od_matrix_of, .func (PySem.W.fnOf "matrix_of" "matrix_of" (defArgs s_matrix_of) (defBody s_matrix_of) (defScope s_matrix_of) .none kV_matrix_of dc_matrix_of pm_matrix_of an_matrix_of cd_matrix_of ct_matrix_of), sl_matrix_of⟩) (c_matrix_of : PySem.W.codeIn K cd_matrix_of "matrix_of" = true) (k_matrix_of : PySem.W.keepIn K (.ref f_matrix_of) = true)
    (a_plus_matrix : PySem.W.nsIn K mainGlobals "plus_matrix" = some (some (.ref f_plus_matrix))) (l_plus_matrix : K.lookup f_plus_matrix = some ⟨oc_plus_matrix, od_plus_matrix, .func (PySem.W.fnOf "plus_matrix" "plus_matrix" (defArgs s_plus_matrix) (defBody s_plus_matrix) (defScope s_plus_matrix) .none kV_plus_matrix dc_plus_matrix pm_plus_matrix an_plus_matrix cd_plus_matrix ct_plus_matrix), sl_plus_matrix⟩) (c_plus_matrix : PySem.W.codeIn K cd_plus_matrix "plus_matrix" = true) (k_plus_matrix : PySem.W.keepIn K (.ref f_plus_matrix) = true)
    (a__law_tape : PySem.W.nsIn K mainGlobals "_law_tape" = some (some (.ref f__law_tape))) (l__law_tape : K.lookup f__law_tape = some ⟨oc__law_tape, od__law_tape, .func (PySem.W.fnOf "_law_tape" "_law_tape" (defArgs s__law_tape) (defBody s__law_tape) (defScope s__law_tape) .none kV__law_tape dc__law_tape pm__law_tape an__law_tape cd__law_tape ct__law_tape), sl__law_tape⟩) (c__law_tape : PySem.W.codeIn K cd__law_tape "_law_tape" = true) (k__law_tape : PySem.W.keepIn K (.ref f__law_tape) = true)
    (a__law_draw : PySem.W.nsIn K mainGlobals "_law_draw" = some (some (.ref f__law_draw))) (l__law_draw : K.lookup f__law_draw = some ⟨oc__law_draw, od__law_draw, .func (PySem.W.fnOf "_law_draw" "_law_draw" (defArgs s__law_draw) (defBody s__law_draw) (defScope s__law_draw) .none kV__law_draw dc__law_draw pm__law_draw an__law_draw cd__law_draw ct__law_draw), sl__law_draw⟩) (c__law_draw : PySem.W.codeIn K cd__law_draw "_law_draw" = true) (k__law_draw : PySem.W.keepIn K (.ref f__law_draw) = true)
    (a__law_pick : PySem.W.nsIn K mainGlobals "_law_pick" = some (some (.ref f__law_pick))) (l__law_pick : K.lookup f__law_pick = some ⟨oc__law_pick, od__law_pick, .func (PySem.W.fnOf "_law_pick" "_law_pick" (defArgs s__law_pick) (defBody s__law_pick) (defScope s__law_pick) .none kV__law_pick dc__law_pick pm__law_pick an__law_pick cd__law_pick ct__law_pick), sl__law_pick⟩) (c__law_pick : PySem.W.codeIn K cd__law_pick "_law_pick" = true) (k__law_pick : PySem.W.keepIn K (.ref f__law_pick) = true)
    (a__law_same : PySem.W.nsIn K mainGlobals "_law_same" = some (some (.ref f__law_same))) (l__law_same : K.lookup f__law_same = some ⟨oc__law_same, od__law_same, .func (PySem.W.fnOf "_law_same" "_law_same" (defArgs s__law_same) (defBody s__law_same) (defScope s__law_same) .none kV__law_same dc__law_same pm__law_same an__law_same cd__law_same ct__law_same), sl__law_same⟩) (c__law_same : PySem.W.codeIn K cd__law_same "_law_same" = true) (k__law_same : PySem.W.keepIn K (.ref f__law_same) = true)
    (a__law_ways : PySem.W.nsIn K mainGlobals "_law_ways" = some (some (.ref f__law_ways))) (l__law_ways : K.lookup f__law_ways = some ⟨oc__law_ways, od__law_ways, .func (PySem.W.fnOf "_law_ways" "_law_ways" (defArgs s__law_ways) (defBody s__law_ways) (defScope s__law_ways) .none kV__law_ways dc__law_ways pm__law_ways an__law_ways cd__law_ways ct__law_ways), sl__law_ways⟩) (c__law_ways : PySem.W.codeIn K cd__law_ways "_law_ways" = true) (k__law_ways : PySem.W.keepIn K (.ref f__law_ways) = true)
    (a__law_continuant : PySem.W.nsIn K mainGlobals "_law_continuant" = some (some (.ref f__law_continuant))) (l__law_continuant : K.lookup f__law_continuant = some ⟨oc__law_continuant, od__law_continuant, .func (PySem.W.fnOf "_law_continuant" "_law_continuant" (defArgs s__law_continuant) (defBody s__law_continuant) (defScope s__law_continuant) .none kV__law_continuant dc__law_continuant pm__law_continuant an__law_continuant cd__law_continuant ct__law_continuant), sl__law_continuant⟩) (c__law_continuant : PySem.W.codeIn K cd__law_continuant "_law_continuant" = true) (k__law_continuant : PySem.W.keepIn K (.ref f__law_continuant) = true)
    (a__law_times : PySem.W.nsIn K mainGlobals "_law_times" = some (some (.ref f__law_times))) (l__law_times : K.lookup f__law_times = some ⟨oc__law_times, od__law_times, .func (PySem.W.fnOf "_law_times" "_law_times" (defArgs s__law_times) (defBody s__law_times) (defScope s__law_times) .none kV__law_times dc__law_times pm__law_times an__law_times cd__law_times ct__law_times), sl__law_times⟩) (c__law_times : PySem.W.codeIn K cd__law_times "_law_times" = true) (k__law_times : PySem.W.keepIn K (.ref f__law_times) = true)
    (a__law_refused : PySem.W.nsIn K mainGlobals "_law_refused" = some (some (.ref f__law_refused))) (l__law_refused : K.lookup f__law_refused = some ⟨oc__law_refused, od__law_refused, .func (PySem.W.fnOf "_law_refused" "_law_refused" (defArgs s__law_refused) (defBody s__law_refused) (defScope s__law_refused) .none kV__law_refused dc__law_refused pm__law_refused an__law_refused cd__law_refused ct__law_refused), sl__law_refused⟩) (c__law_refused : PySem.W.codeIn K cd__law_refused "_law_refused" = true) (k__law_refused : PySem.W.keepIn K (.ref f__law_refused) = true)
    (a_law : PySem.W.nsIn K mainGlobals "law" = some (some (.ref f_law))) (l_law : K.lookup f_law = some ⟨oc_law, od_law, .func (PySem.W.fnOf "law" "law" (defArgs s_law) (defBody s_law) (defScope s_law) .none kV_law dc_law pm_law an_law cd_law ct_law), sl_law⟩) (c_law : PySem.W.codeIn K cd_law "law" = true) (k_law : PySem.W.keepIn K (.ref f_law) = true)
    (z_abs : PySem.W.nsIn K mainGlobals "abs" = some none)
    (z_all : PySem.W.nsIn K mainGlobals "all" = some none)
    (z_bool : PySem.W.nsIn K mainGlobals "bool" = some none)
    (z_int : PySem.W.nsIn K mainGlobals "int" = some none)
    (z_isinstance : PySem.W.nsIn K mainGlobals "isinstance" = some none)
    (z_len : PySem.W.nsIn K mainGlobals "len" = some none)
    (z_range : PySem.W.nsIn K mainGlobals "range" = some none)
    (z_str : PySem.W.nsIn K mainGlobals "str" = some none)
    (z_tuple : PySem.W.nsIn K mainGlobals "tuple" = some none)
    (n_BadNumber : PySem.W.nsIn K mainGlobals "BadNumber" = some (some (.ref k_BadNumber)))
    (i_BadNumber : PySem.W.isClsIn K k_BadNumber = true)
    (x_BadNumber : PySem.W.excIn K k_BadNumber [.type "ValueError", .type "Exception", .type "BaseException", .type "object"] "ValueError.__new__" = true) (p_BadNumber : PySem.W.keepIn K (.ref k_BadNumber) = true) (b_BadNumber : PySem.W.subIn K (.ref k_BadNumber) (.type "BaseException") = some true) (y_BadNumber : PySem.W.typeIn K (.ref k_BadNumber) = some (.type "type"))
    (s_BadNumber_BadNumber : PySem.W.subIn K (.ref k_BadNumber) (.ref k_BadNumber) = some true)
    (n : Nat) : ∃ fd : FuncData, (∀ (s : Shared) (v : Value), BindsTo s fd ⟨[v], []⟩ [("script", v)]) ∧ ∀ base : Heap, K.In base → base.Ns mainGlobals mg → FnOk l.prog w K mg base (L2.CX l.prog w) (n + 1) fa fd ["script"] (spG K (ctab [(1, k_BadNumber)]) (callF tab (n + 1) 15)) := by
  have e := hfa.symm.trans (PySem.W.mg_of X G a_law)
  cases e
  have T : Nm K mg (ctab [(1, k_BadNumber)]) := ⟨trivial, PySem.W.mg_none_of X G z_abs, PySem.W.mg_none_of X G z_all, PySem.W.mg_none_of X G z_bool, PySem.W.mg_none_of X G z_int, PySem.W.mg_none_of X G z_isinstance, PySem.W.mg_none_of X G z_len, PySem.W.mg_none_of X G z_range, PySem.W.mg_none_of X G z_str, PySem.W.mg_none_of X G z_tuple, ⟨k_BadNumber, rfl, PySem.W.mg_of X G n_BadNumber, x_BadNumber, p_BadNumber, b_BadNumber, y_BadNumber⟩, ⟨k_BadNumber, PySem.W.mg_of X G n_BadNumber, by intro c k h; exact (lk_cons (exm_ref b_BadNumber i_BadNumber y_BadNumber s_BadNumber_BadNumber) lk_nil) c k h⟩⟩
  have F_is_integer := fun_mk (st := s_is_integer) l_is_integer c_is_integer k_is_integer
  have B_is_integer := F_is_integer.binds (ps := ["value"]) fun _ _ _ _ _ _ us hl => match us, hl with | [_], _ => rfl
  have F_check_integers := fun_mk (st := s_check_integers) l_check_integers c_check_integers k_check_integers
  have B_check_integers := F_check_integers.binds (ps := ["row"]) fun _ _ _ _ _ _ us hl => match us, hl with | [_], _ => rfl
  have F_minus_continuant := fun_mk (st := s_minus_continuant) l_minus_continuant c_minus_continuant k_minus_continuant
  have B_minus_continuant := F_minus_continuant.binds (ps := ["row"]) fun _ _ _ _ _ _ us hl => match us, hl with | [_], _ => rfl
  have F_plus_continuant := fun_mk (st := s_plus_continuant) l_plus_continuant c_plus_continuant k_plus_continuant
  have B_plus_continuant := F_plus_continuant.binds (ps := ["row"]) fun _ _ _ _ _ _ us hl => match us, hl with | [_], _ => rfl
  have F_times := fun_mk (st := s_times) l_times c_times k_times
  have B_times := F_times.binds (ps := ["one", "other"]) fun _ _ _ _ _ _ us hl => match us, hl with | [_, _], _ => rfl
  have F_matrix_of := fun_mk (st := s_matrix_of) l_matrix_of c_matrix_of k_matrix_of
  have B_matrix_of := F_matrix_of.binds (ps := ["row"]) fun _ _ _ _ _ _ us hl => match us, hl with | [_], _ => rfl
  have F_plus_matrix := fun_mk (st := s_plus_matrix) l_plus_matrix c_plus_matrix k_plus_matrix
  have B_plus_matrix := F_plus_matrix.binds (ps := ["row"]) fun _ _ _ _ _ _ us hl => match us, hl with | [_], _ => rfl
  have F__law_tape := fun_mk (st := s__law_tape) l__law_tape c__law_tape k__law_tape
  have B__law_tape := F__law_tape.binds (ps := ["script"]) fun _ _ _ _ _ _ us hl => match us, hl with | [_], _ => rfl
  have F__law_draw := fun_mk (st := s__law_draw) l__law_draw c__law_draw k__law_draw
  have B__law_draw := F__law_draw.binds (ps := ["tape", "many"]) fun _ _ _ _ _ _ us hl => match us, hl with | [_, _], _ => rfl
  have F__law_pick := fun_mk (st := s__law_pick) l__law_pick c__law_pick k__law_pick
  have B__law_pick := F__law_pick.binds (ps := ["tape", "row"]) fun _ _ _ _ _ _ us hl => match us, hl with | [_, _], _ => rfl
  have F__law_same := fun_mk (st := s__law_same) l__law_same c__law_same k__law_same
  have B__law_same := F__law_same.binds (ps := ["one", "other"]) fun _ _ _ _ _ _ us hl => match us, hl with | [_, _], _ => rfl
  have F__law_ways := fun_mk (st := s__law_ways) l__law_ways c__law_ways k__law_ways
  have B__law_ways := F__law_ways.binds (ps := ["size"]) fun _ _ _ _ _ _ us hl => match us, hl with | [_], _ => rfl
  have F__law_continuant := fun_mk (st := s__law_continuant) l__law_continuant c__law_continuant k__law_continuant
  have B__law_continuant := F__law_continuant.binds (ps := ["row", "sign"]) fun _ _ _ _ _ _ us hl => match us, hl with | [_, _], _ => rfl
  have F__law_times := fun_mk (st := s__law_times) l__law_times c__law_times k__law_times
  have B__law_times := F__law_times.binds (ps := ["one", "other"]) fun _ _ _ _ _ _ us hl => match us, hl with | [_, _], _ => rfl
  have F__law_refused := fun_mk (st := s__law_refused) l__law_refused c__law_refused k__law_refused
  have B__law_refused := F__law_refused.binds (ps := ["tape"]) fun _ _ _ _ _ _ us hl => match us, hl with | [_], _ => rfl
  have F_law := fun_mk (st := s_law) l_law c_law k_law
  exact ⟨PySem.W.fnOf "law" "law" (defArgs s_law) (defBody s_law) (defScope s_law) .none kV_law dc_law pm_law an_law cd_law ct_law, fun s v => .of_eq rfl, fun base _ _ => ok_law F_law T (all_fs T F_is_integer B_is_integer (PySem.W.mg_of X G a_is_integer) F_check_integers B_check_integers (PySem.W.mg_of X G a_check_integers) F_minus_continuant B_minus_continuant (PySem.W.mg_of X G a_minus_continuant) F_plus_continuant B_plus_continuant (PySem.W.mg_of X G a_plus_continuant) F_times B_times (PySem.W.mg_of X G a_times) F_matrix_of B_matrix_of (PySem.W.mg_of X G a_matrix_of) F_plus_matrix B_plus_matrix (PySem.W.mg_of X G a_plus_matrix) F__law_tape B__law_tape (PySem.W.mg_of X G a__law_tape) F__law_draw B__law_draw (PySem.W.mg_of X G a__law_draw) F__law_pick B__law_pick (PySem.W.mg_of X G a__law_pick) F__law_same B__law_same (PySem.W.mg_of X G a__law_same) F__law_ways B__law_ways (PySem.W.mg_of X G a__law_ways) F__law_continuant B__law_continuant (PySem.W.mg_of X G a__law_continuant) F__law_times B__law_times (PySem.W.mg_of X G a__law_times) F__law_refused B__law_refused (PySem.W.mg_of X G a__law_refused) n)⟩
end L_k40
end
open PySem PySem.W PyProof.Rows
set_option maxRecDepth 100000 in
set_option maxHeartbeats 0 in
theorem PySem.Challenge.cw_friezewright_k40_whole_continuants_holds : PySem.Challenge.rw_friezewright_k40_whole_continuants.Holds := by
  w_on; o_law; k_head; (case hw => w_witness2)
  k_fill
  refine L2.walk_of (l := PySem.Challenge.rw_friezewright_k40_whole_continuants) (n := 63) (k := 12) (x := "script") (CX := fun w => L2.CX PySem.Challenge.pw_friezewright_k40_whole_continuants w) (sp := fun w => Mi.spG _ (L_k40.ctab [(1, 37)]) (Mi.callF L_k40.tab 12 15)) rfl (by decide) rfl ⟨rfl, by decide, by decide⟩ (fun w h Y => PySem.W.kIn_of Y) ?F (fun w H a ns hl ho hS => Mi.sp_law ho hS (L_k40.law_true ns hl)) (fun w H s e s' h => Mi.cx_false h)
  case F =>
    intro w mg fa h KX G hmg
    refine' L_k40.all_mk (k_BadNumber := 37) KX G hmg ?a_is_integer ?l_is_integer ?c_is_integer ?k_is_integer ?a_check_integers ?l_check_integers ?c_check_integers ?k_check_integers ?a_minus_continuant ?l_minus_continuant ?c_minus_continuant ?k_minus_continuant ?a_plus_continuant ?l_plus_continuant ?c_plus_continuant ?k_plus_continuant ?a_times ?l_times ?c_times ?k_times ?a_matrix_of ?l_matrix_of ?c_matrix_of ?k_matrix_of ?a_plus_matrix ?l_plus_matrix ?c_plus_matrix ?k_plus_matrix ?a__law_tape ?l__law_tape ?c__law_tape ?k__law_tape ?a__law_draw ?l__law_draw ?c__law_draw ?k__law_draw ?a__law_pick ?l__law_pick ?c__law_pick ?k__law_pick ?a__law_same ?l__law_same ?c__law_same ?k__law_same ?a__law_ways ?l__law_ways ?c__law_ways ?k__law_ways ?a__law_continuant ?l__law_continuant ?c__law_continuant ?k__law_continuant ?a__law_times ?l__law_times ?c__law_times ?k__law_times ?a__law_refused ?l__law_refused ?c__law_refused ?k__law_refused ?a_law ?l_law ?c_law ?k_law ?z_abs ?z_all ?z_bool ?z_int ?z_isinstance ?z_len ?z_range ?z_str ?z_tuple ?n_BadNumber ?i_BadNumber ?x_BadNumber ?p_BadNumber ?b_BadNumber ?y_BadNumber ?s_BadNumber_BadNumber 11
    (case a_is_integer => k_is); (case l_is_integer => k_is); (case c_is_integer => k_is); (case k_is_integer => k_is); (case a_check_integers => k_is); (case l_check_integers => k_is); (case c_check_integers => k_is); (case k_check_integers => k_is); (case a_minus_continuant => k_is); (case l_minus_continuant => k_is); (case c_minus_continuant => k_is); (case k_minus_continuant => k_is); (case a_plus_continuant => k_is); (case l_plus_continuant => k_is); (case c_plus_continuant => k_is); (case k_plus_continuant => k_is); (case a_times => k_is); (case l_times => k_is); (case c_times => k_is); (case k_times => k_is); (case a_matrix_of => k_is); (case l_matrix_of => k_is); (case c_matrix_of => k_is); (case k_matrix_of => k_is); (case a_plus_matrix => k_is); (case l_plus_matrix => k_is); (case c_plus_matrix => k_is); (case k_plus_matrix => k_is); (case a__law_tape => k_is); (case l__law_tape => k_is); (case c__law_tape => k_is); (case k__law_tape => k_is); (case a__law_draw => k_is); (case l__law_draw => k_is); (case c__law_draw => k_is); (case k__law_draw => k_is); (case a__law_pick => k_is); (case l__law_pick => k_is); (case c__law_pick => k_is); (case k__law_pick => k_is); (case a__law_same => k_is); (case l__law_same => k_is); (case c__law_same => k_is); (case k__law_same => k_is); (case a__law_ways => k_is); (case l__law_ways => k_is); (case c__law_ways => k_is); (case k__law_ways => k_is); (case a__law_continuant => k_is); (case l__law_continuant => k_is); (case c__law_continuant => k_is); (case k__law_continuant => k_is); (case a__law_times => k_is); (case l__law_times => k_is); (case c__law_times => k_is); (case k__law_times => k_is); (case a__law_refused => k_is); (case l__law_refused => k_is); (case c__law_refused => k_is); (case k__law_refused => k_is); (case a_law => k_is); (case l_law => k_is); (case c_law => k_is); (case k_law => k_is); (case z_abs => k_is); (case z_all => k_is); (case z_bool => k_is); (case z_int => k_is); (case z_isinstance => k_is); (case z_len => k_is); (case z_range => k_is); (case z_str => k_is); (case z_tuple => k_is); (case n_BadNumber => k_is); (case i_BadNumber => k_is); (case x_BadNumber => k_exc); (case p_BadNumber => k_is); (case b_BadNumber => k_is); (case y_BadNumber => k_is); (case s_BadNumber_BadNumber => first | rfl | k_is)
