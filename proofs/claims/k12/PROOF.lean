import PyProof.Rows.All
import HandS.ForMost
import HandS.WordsExc
import HandS.TupAny
import HandS.TupMul
import HandS.Wide
import HandS.Zip
import HandS.Walk
import HandS.Flow
import HandS.IsInst
import PySem.Challenge.RW_friezewright_k12_whole_growths
section
set_option linter.all false
set_option maxRecDepth 100000
/-! MiA: a small deterministic reading of Python's constructs: values D, a small heap of lists and dicts, combinators. No model in sight. -/
namespace Mi
open PySem

/-- a value: tuples and lists that nobody may change are values; a list that may change is a place of the small heap -/
inductive D where
  | non | bl (b : Bool) | int (i : Int) | str (s : Str)
  | tup (xs : List D) | fl (xs : List D) | ref (r : Nat)
  deriving Inhabited
/-- an object of the small heap; fz: a list that a loop walks -/
inductive Ob where
  | lst (xs : List D) | fz (xs : List D) | dic (kvs : List (D × D)) | fd (kvs : List (D × D))
  deriving Inhabited
/-- what an expression gives: a value, or a new object that stands nowhere yet -/
inductive Tv where
  | val (d : D) | new (o : Ob)
  deriving Inhabited
abbrev Hq := List Ob
abbrev Ev := List (Option D)
inductive R (α : Type) where
  | ok (a : α) (μ : Hq) | exc (c : Nat) (p : D) (μ : Hq) | fail
  deriving Inhabited
def R.bind {α β : Type} (x : R α) (f : α → Hq → R β) : R β := match x with
  | .ok a μ => f a μ
  | .exc c p μ => .exc c p μ
  | .fail => .fail
inductive Fl where
  | nx | rt (t : Tv) | bk | ct
  deriving Inhabited
inductive RS where
  | ok (f : Fl) (ρ : Ev) (μ : Hq) | exc (c : Nat) (p : D) (ρ : Ev) (μ : Hq) | fail
  deriving Inhabited
def R.toS {α : Type} (x : R α) (ρ : Ev) (f : α → Hq → RS) : RS := match x with
  | .ok a μ => f a μ
  | .exc c p μ => .exc c p ρ μ
  | .fail => .fail

abbrev TF := Ev → Hq → R Bool
abbrev AF := Ev → Hq → R (List D)
abbrev SF := Ev → Hq → RS
/-- a target: stores a value -/
abbrev GF := D → Ev → Hq → R Ev
/-- what is walked: the items, and the place that is locked meanwhile -/
structure Itm where
  xs : List D
  lk : Option Nat
abbrev IF := Ev → Hq → R Itm
/-- a call by the def's number -/
abbrev CF := Nat → List D → Hq → R Tv

def big : Nat := 1000000
def cap {α : Type} (n : Nat) (x : R α) : R α := if n ≤ 1000000 then x else .fail

/-! ### values -/
def mat : Tv → Hq → D × Hq
  | .val d, μ => (d, μ)
  | .new o, μ => (.ref μ.length, μ ++ [o])
def Ob.seq : Ob → Option (List D)
  | .lst xs => some xs
  | .fz xs => some xs
  | _ => none
def Ob.dct : Ob → Option (List (D × D))
  | .dic xs => some xs
  | .fd xs => some xs
  | _ => none
/-- the items of a list -/
def lq (μ : Hq) : Tv → Option (List D)
  | .val (.ref r) => (μ[r]?).bind Ob.seq
  | .val (.fl xs) => some xs
  | .new (.lst xs) => some xs
  | _ => none
/-- .. of a list that is made by the program -/
def mq (μ : Hq) : Tv → Option (List D)
  | .val (.ref r) => (μ[r]?).bind Ob.seq
  | .new (.lst xs) => some xs
  | _ => none
/-- the items of a list or tuple -/
def sq (μ : Hq) : Tv → Option (List D)
  | .val (.tup xs) => some xs
  | t => lq μ t
def dq (μ : Hq) : Tv → Option (List (D × D))
  | .val (.ref r) => (μ[r]?).bind Ob.dct
  | .new (.dic xs) => some xs
  | _ => none
mutual
/-- no place of the small heap in it -/
def D.pure : D → Bool
  | .tup xs => D.pures xs
  | .fl xs => D.pures xs
  | .ref _ => false
  | _ => true
def D.pures : List D → Bool
  | [] => true
  | d :: ds => d.pure && D.pures ds
end
def Ob.pure : Ob → Bool
  | .lst xs => D.pures xs
  | _ => false
mutual
/-- as the model's data -/
def D.py : D → PyData
  | .non => .none
  | .bl b => .bool b
  | .int i => .int i
  | .str s => .str s
  | .tup xs => .tuple (D.pys xs)
  | .fl xs => .list (D.pys xs)
  | .ref _ => .none
def D.pys : List D → List PyData
  | [] => []
  | d :: ds => d.py :: D.pys ds
end
/-- not deeper than n, no place of the small heap -/
def D.dep : Nat → D → Bool
  | n, .tup xs => match n with | 0 => false | n + 1 => xs.all (D.dep n)
  | n, .fl xs => match n with | 0 => false | n + 1 => xs.all (D.dep n)
  | _, .ref _ => false
  | _, .str s => s.cps.all (· < 0x110000)
  | _, .non => true
  | _, .bl _ => true
  | _, .int _ => true
def all2 {α β : Type} (f : α → β → Bool) : List α → List β → Bool
  | [], [] => true
  | x :: xs, y :: ys => f x y && all2 f xs ys
  | _, _ => false
def optAll {α β : Type} (f : α → Option β) : List α → Option (List β)
  | [] => some []
  | x :: xs => match f x with
    | none => none
    | some y => match optAll f xs with
      | none => none
      | some ys => some (y :: ys)
/-- equal, as Python says (data not deeper than n) -/
def D.eqv : Nat → D → D → Bool
  | _, .non, .non => true
  | _, .bl a, .bl b => a == b
  | _, .bl a, .int j => decide ((if a then 1 else 0) = j)
  | _, .int i, .bl b => decide (i = (if b then 1 else 0))
  | _, .int i, .int j => decide (i = j)
  | _, .str x, .str y => decide (x = y)
  | n + 1, .tup xs, .tup ys => all2 (D.eqv n) xs ys
  | n + 1, .fl xs, .fl ys => all2 (D.eqv n) xs ys
  | _, _, _ => false
/-- lists of the small heap read, to a depth -/
def snap (μ : Hq) : Nat → D → Option D
  | n, .tup xs => match n with | 0 => none | n + 1 => (optAll (snap μ n) xs).map .tup
  | n, .fl xs => match n with | 0 => none | n + 1 => (optAll (snap μ n) xs).map .fl
  | n, .ref r => match n with
    | 0 => none
    | n + 1 => match (μ[r]?).bind Ob.seq with
      | none => none
      | some xs => (optAll (snap μ n) xs).map .fl
  | _, .non => some .non
  | _, .bl b => some (.bl b)
  | _, .int i => some (.int i)
  | _, .str s => if s.cps.all (· < 0x110000) then some (.str s) else none
def depth : Nat := 40
/-- as data: not too deep, without places of the small heap -/
def dat (μ : Hq) : Tv → Option D
  | .val (.ref r) => snap μ depth (.ref r)
  | .val d => if d.dep depth then some d else none
  | .new (.lst xs) => snap μ depth (.fl xs)
  | _ => none

/-! ### operators -/
abbrev O2 := Tv → Tv → Hq → R Tv
abbrev O1 := Tv → Hq → R Tv
def vi (i : Int) : Tv := .val (.int i)
def vb (b : Bool) : Tv := .val (.bl b)
def opAdd : O2 := fun x y μ => match x, y with
  | .val (.int i), .val (.int j) => .ok (vi (i + j)) μ
  | .val (.str s), .val (.str t) => cap (s.length + t.length) (.ok (.val (.str (s ++ t))) μ)
  | .val (.tup xs), .val (.tup ys) => cap (xs.length + ys.length) (.ok (.val (.tup (xs ++ ys))) μ)
  | x, y => match mq μ x, mq μ y with
    | some xs, some ys => cap (xs.length + ys.length) (.ok (.new (.lst (xs ++ ys))) μ)
    | _, _ => .fail
def opAddI : O2 := fun x y μ => match x, y with
  | .val (.int i), .val (.int j) => .ok (vi (i + j)) μ
  | _, _ => .fail
def opSub : O2 := fun x y μ => match x, y with
  | .val (.int i), .val (.int j) => .ok (vi (i - j)) μ
  | _, _ => .fail
/-- nums whose product is not too large -/
def mulOk (i j : Int) : Bool := decide (i.natAbs < 18446744073709551616) || decide (j.natAbs < 18446744073709551616) || decide (i.natAbs.log2 + j.natAbs.log2 < 1000000)
def opMul : O2 := fun x y μ => match x, y with
  | .val (.int i), .val (.int j) => if mulOk i j then .ok (vi (i * j)) μ else .fail
  | .val (.tup xs), .val (.int k) => if 0 ≤ k ∧ k ≤ 1000 ∧ xs.length ≤ 1000 then .ok (.val (.tup (List.replicate k.toNat xs).flatten)) μ else .fail
  | x, .val (.int k) => match mq μ x with
    | some xs => if 0 ≤ k ∧ k ≤ 100000 then cap (xs.length * k.toNat) (.ok (.new (.lst (List.replicate k.toNat xs).flatten)) μ) else .fail
    | none => .fail
  | _, _ => .fail
def opDiv : O2 := fun x y μ => match x, y with
  | .val (.int i), .val (.int j) => if 0 < j then (if j < 1073741824 then .ok (vi (i / j)) μ else if j.natAbs.log2 < 9000 then .ok (vi (i / j)) μ else .fail) else .fail
  | _, _ => .fail
def opMod : O2 := fun x y μ => match x, y with
  | .val (.int i), .val (.int j) => if 0 < j then .ok (vi (i % j)) μ else .fail
  | _, _ => .fail
def opNeg : O1 := fun x μ => match x with
  | .val (.int i) => .ok (vi (-i)) μ
  | _ => .fail
def eqTv (x y : Tv) (μ : Hq) : Option Bool := match x, y with
  | .val (.int i), .val (.int j) => some (decide (i = j))
  | .val (.str i), .val (.str j) => some (decide (i = j))
  | x, y => match dat μ x, dat μ y with
    | some a, some b => some (D.eqv depth a b)
    | _, _ => none
def opEq : O2 := fun x y μ => match eqTv x y μ with
  | some b => .ok (vb b) μ
  | none => .fail
def opNe : O2 := fun x y μ => match eqTv x y μ with
  | some b => .ok (vb (!b)) μ
  | none => .fail
def opLt : O2 := fun x y μ => match x, y with
  | .val (.int i), .val (.int j) => .ok (vb (decide (i < j))) μ
  | _, _ => .fail
def opLe : O2 := fun x y μ => match x, y with
  | .val (.int i), .val (.int j) => .ok (vb (decide (i ≤ j))) μ
  | _, _ => .fail
def opGt : O2 := fun x y μ => match x, y with
  | .val (.int i), .val (.int j) => .ok (vb (decide (j < i))) μ
  | _, _ => .fail
def opGe : O2 := fun x y μ => match x, y with
  | .val (.int i), .val (.int j) => .ok (vb (decide (j ≤ i))) μ
  | _, _ => .fail
/-- the place that an index means -/
def ixq (n : Nat) (i : Int) : Option Nat := if 0 ≤ i then (if i < n then some i.toNat else none) else if -(n : Int) ≤ i then some (i + n).toNat else none
def at? (xs : List D) (i : Int) : Option D := match ixq xs.length i with
  | some j => xs[j]?
  | none => none
def opIx : O2 := fun x y μ => match y with
  | .val (.int i) => match sq μ x with
    | some xs => match at? xs i with
      | some d => .ok (.val d) μ
      | none => .fail
    | none => .fail
  | _ => .fail

abbrev EF := Ev → Hq → R Tv
/-! ### built-ins -/
def opLen : O1 := fun x μ => match x with
  | .val (.str s) => cap s.length (.ok (vi s.length) μ)
  | x => match sq μ x with
    | some xs => .ok (vi xs.length) μ
    | none => .fail
def opAbs : O1 := fun x μ => match x with
  | .val (.int i) => .ok (vi (if i < 0 then -i else i)) μ
  | _ => .fail
def opInt : O1 := fun x μ => match x with
  | .val (.int i) => .ok (vi i) μ
  | .val (.bl b) => .ok (vi (if b then 1 else 0)) μ
  | _ => .fail
def opTuple : O1 := fun x μ => match x with
  | .val (.tup xs) => .ok (.val (.tup xs)) μ
  | x => match lq μ x with
    | some xs => .ok (.val (.tup xs)) μ
    | none => .fail
def opList : O1 := fun x μ => match sq μ x with
  | some xs => .ok (.new (.lst xs)) μ
  | none => .fail
def bls : List D → Option (List Bool)
  | [] => some []
  | .bl b :: r => match bls r with
    | some bs => some (b :: bs)
    | none => none
  | _ => none
def nums : List D → Option (List Int)
  | [] => some []
  | .int b :: r => match nums r with
    | some bs => some (b :: bs)
    | none => none
  | _ => none
def opAll : O1 := fun x μ => match (lq μ x).bind bls with
  | some bs => .ok (vb (bs.all id)) μ
  | none => .fail
def opAny : O1 := fun x μ => match (lq μ x).bind bls with
  | some bs => .ok (vb (bs.any id)) μ
  | none => .fail
def opSum : O1 := fun x μ => match (lq μ x).bind nums with
  | some bs => .ok (vi bs.sum) μ
  | none => .fail
inductive Ty where
  | int | bool | str | tuple | list | dict
def isTy (μ : Hq) : Ty → Tv → Option Bool
  | t, .val .non => some false
  | t, .val (.bl _) => some (match t with | .int => true | .bool => true | _ => false)
  | t, .val (.int _) => some (match t with | .int => true | _ => false)
  | t, .val (.str _) => some (match t with | .str => true | _ => false)
  | t, .val (.tup _) => some (match t with | .tuple => true | _ => false)
  | t, x => match lq μ x with
    | some _ => some (match t with | .list => true | _ => false)
    | none => none
def opIsi (t : Ty) : O1 := fun x μ => match isTy μ t x with
  | some b => .ok (vb b) μ
  | none => .fail
/-- a[lo:hi] -/
def ptI (n : Nat) (d : Nat) : Option Int → Nat
  | none => d
  | some i => if i < 0 then (i + n).toNat else min i.toNat n
def cutq (xs : List D) (lo hi : Option Int) : List D := (xs.drop (ptI xs.length 0 lo)).take (ptI xs.length xs.length hi - ptI xs.length 0 lo)
abbrev PF := Ev → Hq → R (Option Int)
def pN : PF := fun _ μ => .ok none μ
def pS (e : EF) : PF := fun ρ μ => (e ρ μ).bind fun x μ1 => match x with
  | .val (.int i) => .ok (some i) μ1
  | _ => .fail
def slV (l h : Option Int) : O1 := fun x μ => match x with
  | .val (.tup xs) => .ok (.val (.tup (cutq xs l h))) μ
  | x => match lq μ x with
    | some xs => .ok (.new (.lst (cutq xs l h))) μ
    | none => .fail
def eSl (e : EF) (lo hi : PF) : EF := fun ρ μ => (e ρ μ).bind fun x μ1 => (lo ρ μ1).bind fun l μ2 => (hi ρ μ2).bind fun h μ3 => slV l h x μ3
/-- xs.append(e) -/
def eApp (o e : EF) : EF := fun ρ μ => (o ρ μ).bind fun x μ1 => match x with
  | .val (.ref r) => match (μ1[r]?).bind Ob.seq with
    | some _ => (e ρ μ1).bind fun y μ2 => match (mat y μ2).2[r]? with
      | some (.lst xs) => cap xs.length (.ok (.val .non) ((mat y μ2).2.set r (.lst (xs ++ [(mat y μ2).1]))))
      | _ => .fail
    | none => .fail
  | _ => .fail
def zipD : List D → List D → List D
  | x :: xs, y :: ys => .tup [x, y] :: zipD xs ys
  | _, _ => []
/-- zip of two tuples, or two lists that stand nowhere -/
def iZip (a b : EF) : IF := fun ρ μ => (a ρ μ).bind fun x μ1 => (b ρ μ1).bind fun y μ2 => match x, y with
  | .val (.tup xs), .val (.tup ys) => .ok ⟨zipD xs ys, none⟩ μ2
  | _, _ => .fail
/-! ### expressions -/
def eVar (i : Nat) : EF := fun ρ μ => match ρ[i]? with
  | some (some d) => .ok (.val d) μ
  | _ => .fail
def eC (d : D) : EF := fun _ μ => .ok (.val d) μ
def e2 (op : O2) (a b : EF) : EF := fun ρ μ => (a ρ μ).bind fun x μ1 => (b ρ μ1).bind fun y μ2 => op x y μ2
def e1 (op : O1) (a : EF) : EF := fun ρ μ => (a ρ μ).bind fun x μ1 => op x μ1
def aNil : AF := fun _ μ => .ok [] μ
def aCons (e : EF) (r : AF) : AF := fun ρ μ => (e ρ μ).bind fun t μ1 => (r ρ (mat t μ1).2).bind fun ds μ2 => .ok ((mat t μ1).1 :: ds) μ2
def eTup (a : AF) : EF := fun ρ μ => (a ρ μ).bind fun ds μ1 => cap ds.length (.ok (.val (.tup ds)) μ1)
def eLst (a : AF) : EF := fun ρ μ => (a ρ μ).bind fun ds μ1 => cap ds.length (.ok (.new (.lst ds)) μ1)
/-- the truth of a value -/
def tru (μ : Hq) : Tv → Option Bool
  | .val .non => some false
  | .val (.bl b) => some b
  | .val (.int i) => some (i != 0)
  | .val (.str s) => if s.length ≤ 1000000 then some (s.length != 0) else none
  | t => match sq μ t with
    | some xs => some (!xs.isEmpty)
    | none => none
def tV (e : EF) : TF := fun ρ μ => (e ρ μ).bind fun t μ1 => match tru μ1 t with
  | some b => .ok b μ1
  | none => .fail
def tAnd (a b : TF) : TF := fun ρ μ => (a ρ μ).bind fun c μ1 => if c then b ρ μ1 else .ok false μ1
def tOr (a b : TF) : TF := fun ρ μ => (a ρ μ).bind fun c μ1 => if c then .ok true μ1 else b ρ μ1
def tNot (a : TF) : TF := fun ρ μ => (a ρ μ).bind fun c μ1 => .ok (!c) μ1
def eIf (c : TF) (a b : EF) : EF := fun ρ μ => (c ρ μ).bind fun k μ1 => if k then a ρ μ1 else b ρ μ1
/-- and, or, not as values -/
def eAnd (a b : EF) : EF := fun ρ μ => (a ρ μ).bind fun x μ1 => match tru μ1 x with
  | some true => b ρ μ1
  | some false => .ok x μ1
  | none => .fail
def eOr (a b : EF) : EF := fun ρ μ => (a ρ μ).bind fun x μ1 => match tru μ1 x with
  | some true => .ok x μ1
  | some false => b ρ μ1
  | none => .fail
def eNot (a : EF) : EF := fun ρ μ => (a ρ μ).bind fun x μ1 => match tru μ1 x with
  | some b => .ok (vb (!b)) μ1
  | none => .fail
def eCall (cf : CF) (f : Nat) (a : AF) : EF := fun ρ μ => (a ρ μ).bind fun ds μ1 => cf f ds μ1

/-! ### what is walked -/
def itOf (μ : Hq) : Tv → Option Itm
  | .val (.tup xs) => some ⟨xs, none⟩
  | .val (.fl xs) => some ⟨xs, none⟩
  | .new (.lst xs) => some ⟨xs, none⟩
  | .val (.ref r) => match (μ[r]?).bind Ob.seq with
    | some xs => some ⟨xs, some r⟩
    | none => none
  | _ => none
/-- a list is locked while it is walked -/
def lockq (l : Option Nat) (xs : List D) (μ : Hq) : Hq := match l with
  | some r => μ.set r (.fz xs)
  | none => μ
def unlockq (l : Option Nat) (μ0 μ : Hq) : Hq := match l with
  | some r => match μ0[r]? with
    | some o => μ.set r o
    | none => μ
  | none => μ
def iE (e : EF) : IF := fun ρ μ => (e ρ μ).bind fun t μ1 => match itOf μ1 t with
  | some i => .ok i μ1
  | none => .fail
def rangeD (lo : Int) : Nat → List D
  | 0 => []
  | n + 1 => .int lo :: rangeD (lo + 1) n
def iRange1 (a : EF) : IF := fun ρ μ => (a ρ μ).bind fun x μ1 => match x with
  | .val (.int n) => if n < 1000000000 ∧ -1000000000 < n then .ok ⟨rangeD 0 n.toNat, none⟩ μ1 else .fail
  | _ => .fail
def rgOf : Tv → Tv → Option Itm
  | .val (.int lo), .val (.int hi) => if (hi < 1000000000 ∧ -1000000000 < hi) ∧ (lo < 1000000000 ∧ -1000000000 < lo) then some ⟨rangeD lo (hi - lo).toNat, none⟩ else none
  | _, _ => none
def iRange2 (a b : EF) : IF := fun ρ μ => (a ρ μ).bind fun x μ1 => (b ρ μ1).bind fun y μ2 => match rgOf x y with
  | some it => .ok it μ2
  | none => .fail

/-! ### targets -/
def gN (i : Nat) : GF := fun d ρ μ => .ok (ρ.set i (some d)) μ
abbrev GsF := List D → Ev → Hq → R Ev
def gsNil : GsF := fun ds ρ μ => match ds with
  | [] => .ok ρ μ
  | _ => .fail
def gsCons (g : GF) (r : GsF) : GsF := fun ds ρ μ => match ds with
  | d :: t => match g d ρ μ with
    | .ok ρ1 μ1 => match r t ρ1 μ1 with
      | .ok ρ2 μ2 => .ok ρ2 μ2
      | _ => .fail
    | _ => .fail
  | [] => .fail
def gT (gs : GsF) : GF := fun d ρ μ => match d with
  | .tup xs => gs xs ρ μ
  | _ => .fail
def setAt (r : Nat) (o : Ob) (μ : Hq) : Hq := μ.set r o
/-- o[i] = d, o a list of the small heap -/
def gIx (o i : EF) : GF := fun d ρ μ => (o ρ μ).bind fun x μ1 => (i ρ μ1).bind fun y μ2 => match x, y with
  | .val (.ref r), .val (.int k) => match μ2[r]? with
    | some (.lst xs) => match ixq xs.length k with
      | some j => .ok ρ (μ2.set r (.lst (xs.set j d)))
      | none => .fail
    | _ => .fail
  | _, _ => .fail

/-! ### comprehensions -/
def wip (ρ : Ev) : List Nat → Ev
  | [] => ρ
  | v :: vs => (wip ρ vs).set v none
/-- the items that a comprehension makes -/
def lcGo (g : GF) (c : TF) (e : EF) (ρ : Ev) : List D → Hq → R (List D)
  | [], μ => .ok [] μ
  | x :: xs, μ => match g x ρ μ with
    | .ok ρ1 μ1 => match c ρ1 μ1 with
      | .ok true μ2 => match e ρ1 μ2 with
        | .ok t μ3 => match lcGo g c e ρ xs (mat t μ3).2 with
          | .ok ds μ4 => .ok ((mat t μ3).1 :: ds) μ4
          | _ => .fail
        | _ => .fail
      | .ok false μ2 => lcGo g c e ρ xs μ2
      | _ => .fail
    | _ => .fail
def tYs : TF := fun _ μ => .ok true μ
def eLc (own : List Nat) (g : GF) (i : IF) (c : TF) (e : EF) : EF := fun ρ μ => (i ρ μ).bind fun it μ1 =>
  match lcGo g c e (wip ρ own) it.xs (lockq it.lk it.xs μ1) with
  | .ok ds μ2 => cap it.xs.length (.ok (.new (.lst ds)) (unlockq it.lk μ1 μ2))
  | _ => .fail

/-! ### statements -/
def sNil : SF := fun ρ μ => .ok .nx ρ μ
def sCons (a b : SF) : SF := fun ρ μ => match a ρ μ with
  | .ok .nx ρ1 μ1 => b ρ1 μ1
  | r => r
def sAsg (g : GF) (e : EF) : SF := fun ρ μ => (e ρ μ).toS ρ fun t μ1 => (g (mat t μ1).1 ρ (mat t μ1).2).toS ρ fun ρ2 μ2 => .ok .nx ρ2 μ2
/-- a, b = x, y -/
def sPar (i j : Nat) (a : AF) : SF := fun ρ μ => (a ρ μ).toS ρ fun ds μ1 => match ds with
  | [x, y] => .ok .nx ((ρ.set i (some x)).set j (some y)) μ1
  | _ => .fail
def sAug (i : Nat) (op : O2) (e : EF) : SF := fun ρ μ => match ρ[i]? with
  | some (some d) => (e ρ μ).toS ρ fun y μ1 => (op (.val d) y μ1).toS ρ fun z μ2 => .ok .nx (ρ.set i (some (mat z μ2).1)) (mat z μ2).2
  | _ => .fail
def sE (e : EF) : SF := fun ρ μ => (e ρ μ).toS ρ fun _ μ1 => .ok .nx ρ μ1
def sRet (e : EF) : SF := fun ρ μ => (e ρ μ).toS ρ fun t μ1 => .ok (.rt t) ρ μ1
def sRetN : SF := fun ρ μ => .ok (.rt (.val .non)) ρ μ
def sIf (c : TF) (a b : SF) : SF := fun ρ μ => (c ρ μ).toS ρ fun k μ1 => if k then a ρ μ1 else b ρ μ1
def sPass : SF := sNil
def sBrk : SF := fun ρ μ => .ok .bk ρ μ
def sCnt : SF := fun ρ μ => .ok .ct ρ μ
def sNever : SF := fun _ _ => .fail
def whGo (c : TF) (b : SF) : Nat → SF
  | 0 => fun _ _ => .fail
  | n + 1 => fun ρ μ => (c ρ μ).toS ρ fun k μ1 => if k then (match b ρ μ1 with
      | .ok .nx ρ2 μ2 => whGo c b n ρ2 μ2
      | .ok .ct ρ2 μ2 => whGo c b n ρ2 μ2
      | .ok .bk ρ2 μ2 => .ok .nx ρ2 μ2
      | r => r) else .ok .nx ρ μ1
def sWh (c : TF) (b : SF) : SF := whGo c b big
def foGo (g : GF) (b : SF) : List D → SF
  | [] => fun ρ μ => .ok .nx ρ μ
  | x :: xs => fun ρ μ => (g x ρ μ).toS ρ fun ρ1 μ1 => match b ρ1 μ1 with
      | .ok .nx ρ2 μ2 => foGo g b xs ρ2 μ2
      | .ok .ct ρ2 μ2 => foGo g b xs ρ2 μ2
      | .ok .bk ρ2 μ2 => .ok .nx ρ2 μ2
      | r => r
def unlockS (l : Option Nat) (μ0 : Hq) : RS → RS
  | .ok f ρ μ => .ok f ρ (unlockq l μ0 μ)
  | .exc c p ρ μ => .exc c p ρ (unlockq l μ0 μ)
  | .fail => .fail
def sFor (g : GF) (i : IF) (b : SF) : SF := fun ρ μ => (i ρ μ).toS ρ fun it μ1 => unlockS it.lk μ1 (foGo g b it.xs ρ (lockq it.lk it.xs μ1))

/-! ### defs -/
structure FD where
  np : Nat
  nn : Nat
  body : CF → SF
def slots (nn : Nat) (ds : List D) : Ev := ds.map some ++ List.replicate (nn - ds.length) none
/-- what a body's end hands back -/
def endV : RS → R Tv
  | .ok .nx _ μ => .ok (.val .non) μ
  | .ok (.rt t) _ μ => .ok t μ
  | .exc c p _ μ => .exc c p μ
  | _ => .fail
/-- a call that is handed no place of the small heap: it runs over its own, and hands back a value or one new object -/
def alone (μ : Hq) : R Tv → R Tv
  | .ok (.val (.ref r)) μ1 => match μ1[r]? with
    | some o => if o.pure then .ok (.new o) μ else .fail
    | none => .fail
  | .ok (.val d) _ => if d.pure then .ok (.val d) μ else .fail
  | .ok (.new o) _ => if o.pure then .ok (.new o) μ else .fail
  | .exc c p _ => if p.pure then .exc c p μ else .fail
  | .fail => .fail
def enter (fd : FD) (cf : CF) (ds : List D) (μ : Hq) : R Tv := endV (fd.body cf (slots fd.nn ds) μ)
def callF (tab : List FD) : Nat → CF
  | 0 => fun _ _ _ => .fail
  | n + 1 => fun f ds μ => match tab[f]? with
    | some fd => if ds.length = fd.np then (if D.pures ds then alone μ (enter fd (callF tab n) ds []) else enter fd (callF tab n) ds μ) else .fail
    | none => .fail
end Mi
end
section
set_option Elab.async false
set_option linter.all false
set_option maxRecDepth 100000
set_option maxHeartbeats 1000000
/-! MiB: the combinators of MiA are what the model does: how small values and heaps stand in the layer's, the judgements. -/
namespace Mi
open PySem PySem.Spec PyProof.Rows L2

/-! ### how a small value stands -/
/-- a list that nobody changes -/
def FzL (K : PySem.W.Frag) (H : Hp) (a : Addr) (vs : List V) : Prop := ∀ H' : Hp, (∀ b o u, H b = some (.frz o u) → H' b = some (.frz o u)) → SqL K H' a vs
mutual
def DR (K : PySem.W.Frag) (m : List Addr) (H : Hp) : D → V → Prop
  | .non, v => v = .non
  | .bl b, v => v = .bl b
  | .int i, v => v = .int i
  | .str s, v => v = .str s
  | .tup ds, v => ∃ a vs, v = .ref a ∧ SqT K H a vs ∧ DsR K m H ds vs
  | .fl ds, v => ∃ a vs, v = .ref a ∧ FzL K H a vs ∧ DsR K m H ds vs
  | .ref r, v => ∃ a, v = .ref a ∧ m[r]? = some a
def DsR (K : PySem.W.Frag) (m : List Addr) (H : Hp) : List D → List V → Prop
  | [], vs => vs = []
  | d :: ds, vs => ∃ v t, vs = v :: t ∧ DR K m H d v ∧ DsR K m H ds t
end
def OR (K : PySem.W.Frag) (m : List Addr) (H : Hp) (a : Addr) : Ob → Prop
  | .lst ds => ∃ vs, H a = some (.lst vs) ∧ DsR K m H ds vs
  | .fz ds => ∃ vs, H a = some (.lst vs) ∧ DsR K m H ds vs
  | _ => False
structure Rp (K : PySem.W.Frag) (m : List Addr) (H : Hp) (μ : Hq) : Prop where
  len : m.length = μ.length
  nd : m.Nodup
  ob : ∀ (r : Nat) (a : Addr) (o : Ob), m[r]? = some a → μ[r]? = some o → OR K m H a o
structure Ext (m : List Addr) (H : Hp) (μ : Hq) (m' : List Addr) (H' : Hp) (μ' : Hq) : Prop where
  pre : ∃ t, m' = m ++ t
  oth : ∀ b o, H b = some o → b ∉ m → H' b = some o
  new : ∀ b ∈ m', b ∉ m → H b = none
  lk : ∀ (r : Nat) (a : Addr) (xs : List D), m[r]? = some a → μ[r]? = some (.fz xs) → μ'[r]? = some (.fz xs) ∧ H' a = H a
structure Re (K : PySem.W.Frag) (m : List Addr) (σ : L2.St) (H : Hp) (ρ : Ev) : Prop where
  len : ρ.length = σ.length
  at_ : ∀ (i : Nat) (d : D), ρ[i]? = some (some d) → ∃ v, σ[i]? = some (some v) ∧ DR K m H d v

section
variable {K : PySem.W.Frag} {m m1 m2 m' : List Addr} {H H1 H2 H' : Hp} {μ μ1 μ2 μ' : Hq} {a b : Addr} {d : D} {ds : List D} {v : V} {vs : List V} {σ : L2.St} {ρ : Ev}

theorem Ext.refl : Ext m H μ m H μ := ⟨⟨[], by simp⟩, fun _ _ e _ => e, fun _ h n => absurd h n, fun _ _ _ _ e => ⟨e, rfl⟩⟩
theorem Rp.mem (R : Rp K m H μ) (h : a ∈ m) : ∃ xs, H a = some (.lst xs) := by
  obtain ⟨r, hr, e⟩ := List.getElem_of_mem h
  have hr' : r < μ.length := by rw [← R.len]; exact hr
  have q := R.ob r a μ[r] (by rw [List.getElem?_eq_getElem hr, e]) (by rw [List.getElem?_eq_getElem hr'])
  cases z : μ[r] <;> rw [z] at q
  · obtain ⟨vs, h1, _⟩ := q; exact ⟨vs, h1⟩
  · obtain ⟨vs, h1, _⟩ := q; exact ⟨vs, h1⟩
  · exact q.elim
  · exact q.elim
theorem Rp.tup (R : Rp K m H μ) {xs : List V} (h : H a = some (.tup xs)) : a ∉ m := fun z => by
  obtain ⟨ys, e⟩ := R.mem z
  rw [h] at e; cases e
theorem Rp.frz (R : Rp K m H μ) {o : Obj} {u : HO} (h : H a = some (.frz o u)) : a ∉ m := fun z => by
  obtain ⟨ys, e⟩ := R.mem z
  rw [h] at e; cases e
theorem Rp.fresh (R : Rp K m H μ) (h : H a = none) : a ∉ m := fun z => by
  obtain ⟨ys, e⟩ := R.mem z
  rw [h] at e; cases e
theorem Ext.sub (E : Ext m H μ m' H' μ') {r : Nat} (h : m[r]? = some a) : m'[r]? = some a := by
  obtain ⟨t, rfl⟩ := E.pre
  rw [List.getElem?_append_left (List.getElem?_eq_some_iff.mp h).1]; exact h
theorem Ext.mem (E : Ext m H μ m' H' μ') (h : a ∈ m) : a ∈ m' := by
  obtain ⟨t, rfl⟩ := E.pre
  exact List.mem_append_left _ h
theorem Ext.trans (E : Ext m H μ m1 H1 μ1) (F : Ext m1 H1 μ1 m2 H2 μ2) : Ext m H μ m2 H2 μ2 := by
  refine ⟨?_, fun b o e n => ?_, fun b hb n => ?_, fun r a xs e1 e2 => ?_⟩
  · obtain ⟨t, rfl⟩ := E.pre
    obtain ⟨u, rfl⟩ := F.pre
    exact ⟨t ++ u, by simp⟩
  · refine F.oth b o (E.oth b o e n) fun hb => ?_
    rw [E.new b hb n] at e; cases e
  · by_cases h1 : b ∈ m1
    · exact E.new b h1 n
    · cases q : H b with
      | none => rfl
      | some o =>
        have := E.oth b o q n
        rw [F.new b hb h1] at this; cases this
  · obtain ⟨f1, f2⟩ := E.lk r a xs e1 e2
    obtain ⟨g1, g2⟩ := F.lk r a xs (E.sub e1) f1
    exact ⟨g1, g2.trans f2⟩
theorem Ext.tup (E : Ext m H μ m' H' μ') (R : Rp K m H μ) {xs : List V} (h : H a = some (.tup xs)) : H' a = some (.tup xs) := E.oth a _ h (R.tup h)
theorem Ext.frz (E : Ext m H μ m' H' μ') (R : Rp K m H μ) {o : Obj} {u : HO} (h : H a = some (.frz o u)) : H' a = some (.frz o u) := E.oth a _ h (R.frz h)
theorem SqT.ext (E : Ext m H μ m' H' μ') (R : Rp K m H μ) (h : SqT K H a vs) : SqT K H' a vs := by
  rcases h with (h | ⟨o, h⟩) | h
  · exact .inl (.inl (E.tup R h))
  · exact .inl (.inr ⟨o, E.frz R h⟩)
  · exact .inr h
theorem FzL.ext (E : Ext m H μ m' H' μ') (R : Rp K m H μ) (h : FzL K H a vs) : FzL K H' a vs := fun H2 k => h H2 fun b o u e => k b o u (E.frz R e)
theorem FzL.now (h : FzL K H a vs) : SqL K H a vs := h H fun _ _ _ e => e
mutual
theorem DR.mono (hs : ∀ (r : Nat) (a : Addr), m[r]? = some a → m'[r]? = some a) (ht : ∀ a vs, SqT K H a vs → SqT K H' a vs) (hf : ∀ a vs, FzL K H a vs → FzL K H' a vs) : ∀ {d : D} {v : V}, DR K m H d v → DR K m' H' d v
  | .non, _, h => by unfold DR at h ⊢; exact h
  | .bl _, _, h => by unfold DR at h ⊢; exact h
  | .int _, _, h => by unfold DR at h ⊢; exact h
  | .str _, _, h => by unfold DR at h ⊢; exact h
  | .tup ds, _, h => by
    unfold DR at h ⊢
    obtain ⟨a, vs, e, h1, h2⟩ := h
    exact ⟨a, vs, e, ht _ _ h1, DsR.mono hs ht hf h2⟩
  | .fl ds, _, h => by
    unfold DR at h ⊢
    obtain ⟨a, vs, e, h1, h2⟩ := h
    exact ⟨a, vs, e, hf _ _ h1, DsR.mono hs ht hf h2⟩
  | .ref r, _, h => by
    unfold DR at h ⊢
    obtain ⟨a, e, h1⟩ := h
    exact ⟨a, e, hs _ _ h1⟩
theorem DsR.mono (hs : ∀ (r : Nat) (a : Addr), m[r]? = some a → m'[r]? = some a) (ht : ∀ a vs, SqT K H a vs → SqT K H' a vs) (hf : ∀ a vs, FzL K H a vs → FzL K H' a vs) : ∀ {ds : List D} {vs : List V}, DsR K m H ds vs → DsR K m' H' ds vs
  | [], _, h => by unfold DsR at h ⊢; exact h
  | d :: ds, _, h => by
    unfold DsR at h ⊢
    obtain ⟨v, t, e, h1, h2⟩ := h
    exact ⟨v, t, e, DR.mono hs ht hf h1, DsR.mono hs ht hf h2⟩
end
theorem DR.ext (E : Ext m H μ m' H' μ') (R : Rp K m H μ) (h : DR K m H d v) : DR K m' H' d v := DR.mono (fun _ _ e => E.sub e) (fun _ _ q => Mi.SqT.ext E R q) (fun _ _ q => q.ext E R) h
theorem DsR.ext (E : Ext m H μ m' H' μ') (R : Rp K m H μ) (h : DsR K m H ds vs) : DsR K m' H' ds vs := DsR.mono (fun _ _ e => E.sub e) (fun _ _ q => Mi.SqT.ext E R q) (fun _ _ q => q.ext E R) h
theorem DR.wide (u : List Addr) (h : DR K m H d v) : DR K (m ++ u) H d v := DR.mono (fun _ _ e => by rw [List.getElem?_append_left (List.getElem?_eq_some_iff.mp e).1]; exact e) (fun _ _ q => q) (fun _ _ q => q) h
theorem DsR.wide (u : List Addr) (h : DsR K m H ds vs) : DsR K (m ++ u) H ds vs := DsR.mono (fun _ _ e => by rw [List.getElem?_append_left (List.getElem?_eq_some_iff.mp e).1]; exact e) (fun _ _ q => q) (fun _ _ q => q) h
theorem OR.wide {o : Ob} (u : List Addr) (h : OR K m H a o) : OR K (m ++ u) H a o := by
  cases o with
  | lst ds => obtain ⟨vs, e, q⟩ := h; exact ⟨vs, e, q.wide u⟩
  | fz ds => obtain ⟨vs, e, q⟩ := h; exact ⟨vs, e, q.wide u⟩
  | dic _ => exact h.elim
  | fd _ => exact h.elim
theorem OR.mono {o : Ob} (hs : ∀ (r : Nat) (a : Addr), m[r]? = some a → m'[r]? = some a) (ht : ∀ a vs, SqT K H a vs → SqT K H' a vs) (hf : ∀ a vs, FzL K H a vs → FzL K H' a vs) (he : H' a = H a) (h : OR K m H a o) : OR K m' H' a o := by
  cases o with
  | lst ds => obtain ⟨vs, e, q⟩ := h; exact ⟨vs, he.trans e, q.mono hs ht hf⟩
  | fz ds => obtain ⟨vs, e, q⟩ := h; exact ⟨vs, he.trans e, q.mono hs ht hf⟩
  | dic _ => exact h.elim
  | fd _ => exact h.elim
theorem DsR.nil : DsR K m H [] [] := by unfold DsR; rfl
theorem DsR.cons (h : DR K m H d v) (t : DsR K m H ds vs) : DsR K m H (d :: ds) (v :: vs) := by unfold DsR; exact ⟨v, vs, rfl, h, t⟩
theorem DsR.nil_iff (h : DsR K m H [] vs) : vs = [] := by unfold DsR at h; exact h
theorem DsR.cons_iff (h : DsR K m H (d :: ds) vs) : ∃ v t, vs = v :: t ∧ DR K m H d v ∧ DsR K m H ds t := by unfold DsR at h; exact h
theorem DsR.length : ∀ {ds : List D} {vs : List V}, DsR K m H ds vs → ds.length = vs.length
  | [], _, h => by rw [h.nil_iff]; rfl
  | d :: ds, _, h => by
    obtain ⟨v, t, rfl, _, h2⟩ := h.cons_iff
    simp [DsR.length h2]
theorem DsR.get : ∀ {ds : List D} {vs : List V} {i : Nat} {d : D}, DsR K m H ds vs → ds[i]? = some d → ∃ v, vs[i]? = some v ∧ DR K m H d v
  | [], _, _, _, _, e => by simp at e
  | d :: ds, _, 0, _, h, e => by
    obtain ⟨v, t, rfl, h1, h2⟩ := h.cons_iff
    simp at e; subst e; exact ⟨v, rfl, h1⟩
  | d :: ds, _, i + 1, _, h, e => by
    obtain ⟨v, t, rfl, h1, h2⟩ := h.cons_iff
    obtain ⟨w, e1, e2⟩ := DsR.get (i := i) h2 (by simpa using e)
    exact ⟨w, by simpa using e1, e2⟩
theorem DsR.getV : ∀ {ds : List D} {vs : List V} {i : Nat} {v : V}, DsR K m H ds vs → vs[i]? = some v → ∃ d, ds[i]? = some d ∧ DR K m H d v
  | [], _, _, _, h, e => by rw [h.nil_iff] at e; simp at e
  | d :: ds, _, 0, _, h, e => by
    obtain ⟨v, t, rfl, h1, h2⟩ := h.cons_iff
    simp at e; subst e; exact ⟨d, rfl, h1⟩
  | d :: ds, _, i + 1, _, h, e => by
    obtain ⟨v, t, rfl, h1, h2⟩ := h.cons_iff
    obtain ⟨w, e1, e2⟩ := DsR.getV (i := i) h2 (by simpa using e)
    exact ⟨w, by simpa using e1, e2⟩
theorem DsR.append : ∀ {ds es : List D} {vs ws : List V}, DsR K m H ds vs → DsR K m H es ws → DsR K m H (ds ++ es) (vs ++ ws)
  | [], _, _, _, h, g => by rw [h.nil_iff]; exact g
  | d :: ds, _, _, _, h, g => by
    obtain ⟨v, t, rfl, h1, h2⟩ := h.cons_iff
    exact .cons h1 (DsR.append h2 g)
theorem DsR.take : ∀ {ds : List D} {vs : List V} (n : Nat), DsR K m H ds vs → DsR K m H (ds.take n) (vs.take n)
  | _, _, 0, _ => by simp; exact .nil
  | [], _, n + 1, h => by rw [h.nil_iff]; simp; exact .nil
  | d :: ds, _, n + 1, h => by
    obtain ⟨v, t, rfl, h1, h2⟩ := h.cons_iff
    exact .cons h1 (DsR.take n h2)
theorem DsR.drop : ∀ {ds : List D} {vs : List V} (n : Nat), DsR K m H ds vs → DsR K m H (ds.drop n) (vs.drop n)
  | _, _, 0, h => by simpa using h
  | [], _, n + 1, h => by rw [h.nil_iff]; simp; exact .nil
  | d :: ds, _, n + 1, h => by
    obtain ⟨v, t, rfl, h1, h2⟩ := h.cons_iff
    simpa using DsR.drop n h2
theorem DsR.set : ∀ {ds : List D} {vs : List V} (n : Nat), DsR K m H ds vs → DR K m H d v → DsR K m H (ds.set n d) (vs.set n v)
  | [], _, n, h, g => by rw [h.nil_iff]; simp; exact .nil
  | e :: ds, _, 0, h, g => by
    obtain ⟨w, t, rfl, h1, h2⟩ := h.cons_iff
    exact .cons g h2
  | e :: ds, _, n + 1, h, g => by
    obtain ⟨w, t, rfl, h1, h2⟩ := h.cons_iff
    exact .cons h1 (DsR.set n h2 g)
theorem Re.ext (E : Ext m H μ m' H' μ') (R : Rp K m H μ) (h : Re K m σ H ρ) : Re K m' σ H' ρ :=
  ⟨h.len, fun i d e => let ⟨v, e1, e2⟩ := h.at_ i d e; ⟨v, e1, e2.ext E R⟩⟩
theorem Re.set {i : Nat} (h : Re K m σ H ρ) (g : DR K m H d v) : Re K m (σ.set i (some v)) H (ρ.set i (some d)) := by
  refine ⟨by simpa using h.len, fun j e hj => ?_⟩
  by_cases z : i = j
  · subst z
    have hl : i < ρ.length := by
      have := (List.getElem?_eq_some_iff.mp hj).1
      simpa using this
    rw [List.getElem?_set_self hl] at hj
    cases hj
    exact ⟨v, List.getElem?_set_self (by rw [← h.len]; exact hl), g⟩
  · rw [List.getElem?_set_ne z] at hj
    obtain ⟨w, e1, e2⟩ := h.at_ j e hj
    exact ⟨w, by rw [List.getElem?_set_ne z]; exact e1, e2⟩
theorem wip_length (ρ : Ev) : ∀ vs : List Nat, (wip ρ vs).length = ρ.length
  | [] => rfl
  | v :: vs => by unfold wip; rw [List.length_set, wip_length ρ vs]
theorem Re.wip (h : Re K m σ H ρ) : ∀ vs : List Nat, Re K m (L2.wipe σ vs) H (wip ρ vs)
  | [] => h
  | i :: vs => by
    have ih := Re.wip h vs
    unfold L2.wipe Mi.wip
    refine ⟨by simpa using ih.len, fun j e hj => ?_⟩
    by_cases z : i = j
    · subst z
      have hl : i < (Mi.wip ρ vs).length := by
        have := (List.getElem?_eq_some_iff.mp hj).1
        simpa using this
      rw [List.getElem?_set_self hl] at hj
      cases hj
    · rw [List.getElem?_set_ne z] at hj
      obtain ⟨w, e1, e2⟩ := ih.at_ j e hj
      exact ⟨w, by rw [List.getElem?_set_ne z]; exact e1, e2⟩

/-! ### what an expression gives -/
/-- a result as it stands -/
def TC (K : PySem.W.Frag) (m : List Addr) (H : Hp) : Tv → V → Prop
  | .val d, v => DR K m H d v
  | .new (.lst ds), v => ∃ a vs, v = .ref a ∧ a ∉ m ∧ H a = some (.lst vs) ∧ DsR K m H ds vs
  | _, _ => False
/-- .. a new object being new since H -/
def Frs (H : Hp) (t : Tv) (v : V) : Prop := ∀ o a, t = .new o → v = .ref a → H a = none
def TR (K : PySem.W.Frag) (H : Hp) (m' : List Addr) (H' : Hp) (t : Tv) (v : V) : Prop := TC K m' H' t v ∧ Frs H t v
theorem Ext.back (E : Ext m H μ m' H' μ') (R' : Rp K m' H' μ') (h : H' a = none) : H a = none := by
  cases q : H a with
  | none => rfl
  | some o =>
    by_cases z : a ∈ m
    · exact absurd (E.mem z) (R'.fresh h)
    · rw [E.oth a o q z] at h; cases h
theorem TC.ext {t : Tv} (E : Ext m H μ m' H' μ') (R : Rp K m H μ) (h : TC K m H t v) : TC K m' H' t v := by
  cases t with
  | val d => exact DR.ext E R h
  | new o =>
    cases o with
    | lst ds =>
      obtain ⟨a, vs, e, n, e2, h2⟩ := h
      refine ⟨a, vs, e, fun z => ?_, E.oth a _ e2 n, h2.ext E R⟩
      rw [E.new a z n] at e2; cases e2
    | fz _ => exact h.elim
    | dic _ => exact h.elim
    | fd _ => exact h.elim
theorem Frs.back {t : Tv} (E : Ext m H μ m1 H1 μ1) (R1 : Rp K m1 H1 μ1) (h : Frs H1 t v) : Frs H t v := fun o a e1 e2 => E.back R1 (h o a e1 e2)
theorem Frs.val : Frs H (.val d) v := fun _ _ e _ => nomatch e
theorem TR.val (h : DR K m' H' d v) : TR K H m' H' (.val d) v := ⟨h, Frs.val⟩
/-- a result is given a place of the small heap -/
theorem TC.mat {t : Tv} (E : Ext m H μ m' H' μ') (R : Rp K m' H' μ') (h : TR K H m' H' t v) :
    ∃ u, Ext m H μ (m' ++ u) H' (mat t μ').2 ∧ Rp K (m' ++ u) H' (mat t μ').2 ∧ DR K (m' ++ u) H' (mat t μ').1 v := by
  cases t with
  | val d => exact ⟨[], by rw [List.append_nil]; exact ⟨E, R, h.1⟩⟩
  | new o =>
    cases o with
    | lst ds =>
      obtain ⟨⟨a, vs, rfl, n, e2, h2⟩, fr⟩ := h
      have hn : H a = none := fr _ a rfl rfl
      refine ⟨[a], ⟨?_, E.oth, fun b hb nb => ?_, fun r b xs e1 e2 => ?_⟩, ⟨by simp [Mi.mat, R.len], ?_, fun r b o e1 e3 => ?_⟩, ?_⟩
      · obtain ⟨t, rfl⟩ := E.pre
        exact ⟨t ++ [a], by simp⟩
      · rcases List.mem_append.mp hb with z | z
        · exact E.new b z nb
        · rw [List.mem_singleton.mp z]; exact hn
      · obtain ⟨q1, q2⟩ := E.lk r b xs e1 e2
        refine ⟨?_, q2⟩
        show (μ' ++ [Ob.lst ds])[r]? = _
        rw [List.getElem?_append_left (List.getElem?_eq_some_iff.mp q1).1]; exact q1
      · exact List.nodup_append.mpr ⟨R.nd, by simp, fun x hx y hy e => n (by rw [List.mem_singleton.mp hy] at e; rw [← e]; exact hx)⟩
      · have e3 : (μ' ++ [Ob.lst ds])[r]? = some o := e3
        by_cases hr : r < m'.length
        · rw [List.getElem?_append_left hr] at e1
          rw [List.getElem?_append_left (by rw [← R.len]; exact hr)] at e3
          exact (R.ob r b o e1 e3).wide [a]
        · have hr2 : r = m'.length := by
            have := (List.getElem?_eq_some_iff.mp e1).1
            simp at this; omega
          subst hr2
          rw [List.getElem?_append_right (Nat.le_refl _)] at e1
          rw [R.len, List.getElem?_append_right (Nat.le_refl _)] at e3
          simp at e1 e3
          subst e1; subst e3
          exact ⟨vs, e2, h2.wide _⟩
      · show DR K (m' ++ [a]) H' (.ref μ'.length) _
        unfold DR
        refine ⟨a, rfl, ?_⟩
        rw [← R.len, List.getElem?_append_right (Nat.le_refl _)]
        simp
    | fz _ => exact h.1.elim
    | dic _ => exact h.1.elim
    | fd _ => exact h.1.elim
end
end Mi
end
section
set_option Elab.async false
set_option linter.all false
set_option maxRecDepth 100000
set_option maxHeartbeats 1000000
/-! MiC: readings of the combinators; the layer's judgements at these readings. -/
namespace Mi
open PySem PySem.Spec PyProof.Rows L2

/-- an exception's payload: nothing, or the attribute's value -/
def PR (K : PySem.W.Frag) (m : List Addr) (H : Hp) (at_ : Str) (p : D) (dx : Option Addr) : Prop :=
  (p = .non ∧ dx = none) ∨ ∃ a v, dx = some a ∧ H a = some (.xd [(at_, v)]) ∧ DR K m H p v
/-- the class of an exception's number, its attribute -/
abbrev CT := Nat → Value × Str
abbrev WXe := Value → Option Addr → Hp → Prop
def Post {α β : Type} (rel : Hp → List Addr → Hp → α → β → Prop) (K : PySem.W.Frag) (C : CT) (W : WXe) (m : List Addr) (H : Hp) (μ : Hq) (r : R α) (Q : β → Hp → Prop) : Prop := match r with
  | .ok t μ' => ∀ m' H' v, Ext m H μ m' H' μ' → Rp K m' H' μ' → rel H m' H' t v → Q v H'
  | .exc c p μ' => ∀ m' H' dx, Ext m H μ m' H' μ' → Rp K m' H' μ' → PR K m' H' (C c).2 p dx → W (C c).1 dx H'
  | .fail => False
abbrev RelB {α β : Type} (K : PySem.W.Frag) (rel : Hp → List Addr → Hp → α → β → Prop) : Prop :=
  ∀ m H μ m1 H1 μ1 m' H' a v, Ext m H μ m1 H1 μ1 → Rp K m1 H1 μ1 → rel H1 m' H' a v → rel H m' H' a v
abbrev relB : Hp → List Addr → Hp → Bool → Bool → Prop := fun _ _ _ a b => a = b
abbrev relD (K : PySem.W.Frag) : Hp → List Addr → Hp → List D → List V → Prop := fun _ m H ds vs => DsR K m H ds vs
abbrev relE (K : PySem.W.Frag) : Hp → List Addr → Hp → Ev → L2.St → Prop := fun _ m H ρ σ => Re K m σ H ρ
section
variable {α β γ δ : Type} {rel : Hp → List Addr → Hp → α → β → Prop} {rel2 : Hp → List Addr → Hp → γ → δ → Prop} {K : PySem.W.Frag} {C : CT} {W : WXe} {m m1 : List Addr} {H H1 : Hp} {μ μ1 : Hq}
theorem relTR : RelB K (TR K) := fun _ _ _ _ _ _ _ _ _ _ E R h => ⟨h.1, Frs.back E R h.2⟩
theorem Post.mono {r : R α} {Q Q' : β → Hp → Prop} (h : Post rel K C W m H μ r Q) (k : ∀ v H', Q v H' → Q' v H') : Post rel K C W m H μ r Q' := by
  cases r with
  | ok t μ' => exact fun m' H' v E R q => k _ _ (h m' H' v E R q)
  | exc c p μ' => exact h
  | fail => exact h
theorem Post.step {r : R α} {Q : β → Hp → Prop} (hB : RelB K rel) (E : Ext m H μ m1 H1 μ1) (R1 : Rp K m1 H1 μ1) (h : Post rel K C W m H μ r Q) : Post rel K C W m1 H1 μ1 r Q := by
  cases r with
  | ok t μ' => exact fun m' H' v F R' q => h m' H' v (E.trans F) R' (hB _ _ _ _ _ _ _ _ _ _ E R1 q)
  | exc c p μ' => exact fun m' H' dx F R' q => h m' H' dx (E.trans F) R' q
  | fail => exact h
theorem Post.bind {r : R α} {f : α → Hq → R γ} {Q : δ → Hp → Prop} (hB : RelB K rel2) (h : Post rel2 K C W m H μ (r.bind f) Q) :
    Post rel K C W m H μ r (fun v H1 => ∃ m1 μ1 a, Ext m H μ m1 H1 μ1 ∧ Rp K m1 H1 μ1 ∧ rel H m1 H1 a v ∧ Post rel2 K C W m H μ (f a μ1) Q ∧ Post rel2 K C W m1 H1 μ1 (f a μ1) Q ∧ r = .ok a μ1) := by
  cases r with
  | ok t μ' => exact fun m' H' v E R q => ⟨m', μ', t, E, R, q, h, Post.step hB E R h, rfl⟩
  | exc c p μ' => exact h
  | fail => exact h
/-- a result at hand -/
theorem Post.ok {t : α} {v : β} {Q : β → Hp → Prop} (R : Rp K m H μ) (h : Post rel K C W m H μ (.ok t μ) Q) (q : rel H m H t v) : Q v H := h m H v .refl R q
end

/-! ### the judgements -/
section
variable (K : PySem.W.Frag) (C : CT) (W : WX)
def tE (f : EF) : TE := fun σ H Q => ∃ m ρ μ, Rp K m H μ ∧ Re K m σ H ρ ∧ Post (TR K) K C (fun c d H => W c d σ H) m H μ (f ρ μ) Q
def tT (f : TF) : TT := fun σ H Q => ∃ m ρ μ, Rp K m H μ ∧ Re K m σ H ρ ∧ Post relB K C (fun c d H => W c d σ H) m H μ (f ρ μ) Q
def tA (f : AF) : TA := fun σ H Q => ∃ m ρ μ, Rp K m H μ ∧ Re K m σ H ρ ∧ Post (relD K) K C (fun c d H => W c d σ H) m H μ (f ρ μ) Q
def tG (g : GF) : TG := fun v σ H Q => ∃ m ρ μ d, Rp K m H μ ∧ Re K m σ H ρ ∧ DR K m H d v ∧ Post (relE K) K C (fun c d H => W c d σ H) m H μ (g d ρ μ) Q
def tGs (g : GsF) : TGs := fun vs σ H Q => ∃ m ρ μ ds, Rp K m H μ ∧ Re K m σ H ρ ∧ DsR K m H ds vs ∧ Post (relE K) K C (fun c d H => W c d σ H) m H μ (g ds ρ μ) Q
end
section
variable {X : Cx} {e : Expr} {es : List Expr} {t t' : TE} {tt tt' : TT} {ta ta' : TA} {g g' : TG} {gs gs' : TGs}
theorem PE.imp (h : PE X e t) (i : ∀ σ H Q, t' σ H Q → t σ H Q) : PE X e t' := ⟨fun p s σ H Q I q => h.run p s σ H Q I (i _ _ _ q)⟩
theorem PT.imp (h : PT X e tt) (i : ∀ σ H Q, tt' σ H Q → tt σ H Q) : PT X e tt' := ⟨fun p s σ H Q I q => h.run p s σ H Q I (i _ _ _ q)⟩
theorem PW.imp (h : PW X e tt) (i : ∀ σ H Q, tt' σ H Q → tt σ H Q) : PW X e tt' := ⟨fun w p s σ H Q I q => h.run w p s σ H Q I (i _ _ _ q)⟩
theorem PA.imp (h : PA X es ta) (i : ∀ σ H Q, ta' σ H Q → ta σ H Q) : PA X es ta' := ⟨fun w p s σ H Q I q => h.run w p s σ H Q I (i _ _ _ q)⟩
theorem PG.imp (h : PG X e g) (i : ∀ v σ H Q, g' v σ H Q → g v σ H Q) : PG X e g' := ⟨fun p s σ H v u Q I r q => h.run p s σ H v u Q I r (i _ _ _ _ q)⟩
theorem PGs.imp (h : PGs X es gs) (i : ∀ v σ H Q, gs' v σ H Q → gs v σ H Q) : PGs X es gs' := ⟨fun p s σ H v u Q I r q => h.run p s σ H v u Q I r (i _ _ _ _ q)⟩
end

section
variable {X : Cx} {C : CT} {W : WX} {a b : Expr} {fa fb : EF} {es : List Expr} {as : AF} {pos : Pos}

/-! ### operators -/
/-- what a layer's rule asks of two values, from a combinator's operator -/
def Op2 (K : PySem.W.Frag) (op : O2) (r : R2) : Prop := ∀ (C : CT) (W : WXe) m H μ x y v1 v2 Q, Rp K m H μ → TC K m H x v1 → TC K m H y v2 → Post (TR K) K C W m H μ (op x y μ) Q → r v1 v2 H Q
def Op1 (K : PySem.W.Frag) (op : O1) (r : V → Hp → VK → Prop) : Prop := ∀ (C : CT) (W : WXe) m H μ x v1 Q, Rp K m H μ → TC K m H x v1 → Post (TR K) K C W m H μ (op x μ) Q → r v1 H Q
theorem e2_to {K : PySem.W.Frag} {op : O2} {r : R2} {σ : L2.St} {H : Hp} {Q : VK} (ho : Op2 K op r) (h : tE K C W (e2 op fa fb) σ H Q) : tE K C W fa σ H fun x H1 => tE K C W fb σ H1 fun y H2 => r x y H2 Q := by
  obtain ⟨m, ρ, μ, R0, E0, P⟩ := h
  refine ⟨m, ρ, μ, R0, E0, (Post.bind relTR P).mono fun v H1 ⟨m1, μ1, x, E, R1, T1, _, P1, _⟩ => ?_⟩
  refine ⟨m1, ρ, μ1, R1, E0.ext E R0, (Post.bind relTR P1).mono fun w H2 ⟨m2, μ2, y, F, R2', T2, _, P2, _⟩ => ?_⟩
  exact ho C _ m2 H2 μ2 x y v w Q R2' (T1.1.ext F R1) T2.1 P2
theorem e1_to {K : PySem.W.Frag} {op : O1} {r : V → Hp → VK → Prop} {σ : L2.St} {H : Hp} {Q : VK} (ho : Op1 K op r) (h : tE K C W (e1 op fa) σ H Q) : tE K C W fa σ H fun x H1 => r x H1 Q := by
  obtain ⟨m, ρ, μ, R0, E0, P⟩ := h
  exact ⟨m, ρ, μ, R0, E0, (Post.bind relTR P).mono fun v H1 ⟨m1, μ1, x, E, R1, T1, _, P1, _⟩ => ho C _ m1 H1 μ1 x v Q R1 T1.1 P1⟩
theorem ev_bin {o : Operator} {op : O2} {r : R2} (hr : OpR X (binaryOp o) r) (ho : Op2 X.K op r) (ha : PE X a (tE X.K C W fa)) (hb : PE X b (tE X.K C W fb)) : PE X (.BinOp a o b pos) (tE X.K C W (e2 op fa fb)) :=
  PE.imp (pe_op hr ha hb) fun _ _ _ h => e2_to ho h
theorem ev_cmp {o : CmpOp} {op : O2} {r : R2} (hr : OpR X (compareOp o) r) (ho : Op2 X.K op r) (ha : PE X a (tE X.K C W fa)) (hb : PE X b (tE X.K C W fb)) (hm : behindInMarks o b = false) : PE X (.Compare a [o] [b] pos) (tE X.K C W (e2 op fa fb)) :=
  PE.imp (pe_cmpR hr ha hb hm) fun _ _ _ h => e2_to ho h
theorem ev_un {o : UnaryOp} {op : O1} {r : V → Hp → VK → Prop} (hr : UnR X (unaryOp o) r) (ho : Op1 X.K op r) (ha : PE X a (tE X.K C W fa)) : PE X (.UnaryOp o a pos) (tE X.K C W (e1 op fa)) :=
  PE.imp (pe_un hr ha) fun _ _ _ h => e1_to ho h

/-! ### names and constants -/
theorem ev_var (i : Nat) {x : Str} (hN : X.N[i]? = some x) (hv : Vis X.env.scope x) (hd : (x == ("__debug__" : Str)) = false := by decide) (hcd : (x == ("__classdict__" : Str)) = false := by decide) : PE X (.Name x pos) (tE X.K C W (eVar i)) := by
  refine PE.imp (pe_var hN hv hd hcd) fun σ H Q h => ?_
  obtain ⟨m, ρ, μ, R0, E0, P⟩ := h
  unfold eVar at P
  cases q : ρ[i]? with
  | none => rw [q] at P; exact P.elim
  | some o =>
    cases o with
    | none => rw [q] at P; exact P.elim
    | some d =>
      rw [q] at P
      obtain ⟨v, e1, e2⟩ := E0.at_ i d q
      exact ⟨v, e1, Post.ok R0 P (TR.val e2)⟩
theorem c_to {K : PySem.W.Frag} {d : D} {v : V} {σ : L2.St} {H : Hp} {Q : VK} (hd : ∀ m H, DR K m H d v) (h : tE K C W (eC d) σ H Q) : Q v H := by
  obtain ⟨m, ρ, μ, R0, E0, P⟩ := h
  exact Post.ok R0 P (TR.val (hd m H))
theorem ev_int {i : Int} {j} : PE X (.Constant (.int i) j pos) (tE X.K C W (eC (.int i))) := PE.imp pe_int fun _ _ _ h => c_to (fun _ _ => by unfold DR; rfl) h
theorem ev_bl {i : Bool} {j} : PE X (.Constant (.bool i) j pos) (tE X.K C W (eC (.bl i))) := PE.imp pe_bl fun _ _ _ h => c_to (fun _ _ => by unfold DR; rfl) h
theorem ev_non {j} : PE X (.Constant .none j pos) (tE X.K C W (eC .non)) := PE.imp pe_non fun _ _ _ h => c_to (fun _ _ => by unfold DR; rfl) h
theorem ev_str {i : Str} {j} : PE X (.Constant (.str i) j pos) (tE X.K C W (eC (.str i))) := PE.imp pe_str fun _ _ _ h => c_to (fun _ _ => by unfold DR; rfl) h
/-- a module's constant -/
theorem ev_glob {x : Str} {d : D} {v : V} {u : Value} (hg : Gl X x) (hm : X.mg x = some u) (r : RelV v u) (hd : ∀ m H, DR X.K m H d v) (hdb : (x == ("__debug__" : Str)) = false := by decide) : PE X (.Name x pos) (tE X.K C W (eC d)) :=
  PE.imp (pe_glob hg hm r hdb) fun _ _ _ h => c_to hd h

/-! ### argument lists, displays -/
theorem av_nil : PA X [] (tA X.K C W aNil) := PA.imp pa_nil fun σ H Q h => by
  obtain ⟨m, ρ, μ, R0, E0, P⟩ := h
  exact Post.ok R0 P DsR.nil
theorem av_cons (ha : PE X a (tE X.K C W fa)) (hr : PA X es (tA X.K C W as)) (hs : starEach (a :: es) X.env = (false, eval a X.env) :: starEach es X.env := by rfl) : PA X (a :: es) (tA X.K C W (aCons fa as)) := by
  refine PA.imp (pa_cons ha hr hs) fun σ H Q h => ?_
  obtain ⟨m, ρ, μ, R0, E0, P⟩ := h
  refine ⟨m, ρ, μ, R0, E0, (Post.bind (fun _ _ _ _ _ _ _ _ _ _ _ _ h => h) P).mono fun v H1 ⟨m1, μ1, t, E, R1, T1, P00, P1, _⟩ => ?_⟩
  obtain ⟨u, E2, R2', D2⟩ := TC.mat E R1 T1
  have P0 : Post (relD X.K) X.K C (fun c d H => W c d σ H) (m1 ++ u) H1 (mat t μ1).2 ((as ρ (mat t μ1).2).bind fun ds μ2 => R.ok ((mat t μ1).1 :: ds) μ2) Q := by
    exact Post.step (fun _ _ _ _ _ _ _ _ _ _ _ _ h => h) E2 R2' P00
  refine ⟨m1 ++ u, ρ, (mat t μ1).2, R2', E0.ext E2 R0, (Post.bind (fun _ _ _ _ _ _ _ _ _ _ _ _ h => h) P0).mono fun vs H2 ⟨m2, μ2, ds, F, R3, T3, _, P2, _⟩ => ?_⟩
  exact Post.ok R3 P2 (.cons (D2.ext F R2') T3)
theorem SqT.laid {K : PySem.W.Frag} {H : Hp} {p a : Addr} {o : HO} {vs : List V} (hn : H p = none) (h : SqT K H a vs) : SqT K (upd H p o) a vs := by
  rcases h with (h | ⟨u, h⟩) | h
  · exact .inl (.inl (by rw [upd_ne (ne_of_none h hn)]; exact h))
  · exact .inl (.inr ⟨u, by rw [upd_ne (ne_of_none h hn)]; exact h⟩)
  · exact .inr h
theorem FzL.laid {K : PySem.W.Frag} {H : Hp} {p a : Addr} {o : HO} {vs : List V} (hn : H p = none) (h : FzL K H a vs) : FzL K (upd H p o) a vs := fun H2 k => h H2 fun b u w e => k b u w (by rw [upd_ne (ne_of_none e hn)]; exact e)
/-- a new object is tracked, the small heap is as it was -/
theorem Ext.laid {K : PySem.W.Frag} {m : List Addr} {H : Hp} {μ : Hq} {p : Addr} {o : HO} (R : Rp K m H μ) (hn : H p = none) : Ext m H μ m (upd H p o) μ :=
  ⟨⟨[], by simp⟩, fun b u e _ => by rw [upd_ne (ne_of_none e hn)]; exact e, fun b hb n => absurd hb n, fun r a xs e1 e2 => ⟨e2, by
    obtain ⟨ys, q⟩ := R.mem (List.mem_of_getElem? e1)
    exact upd_ne (ne_of_none q hn)⟩⟩
theorem Rp.laid {K : PySem.W.Frag} {m : List Addr} {H : Hp} {μ : Hq} {p : Addr} {o : HO} (R : Rp K m H μ) (hn : H p = none) : Rp K m (upd H p o) μ :=
  ⟨R.len, R.nd, fun r a u e1 e2 => OR.mono (fun _ _ e => e) (fun _ _ q => Mi.SqT.laid hn q) (fun _ _ q => q.laid hn) (by
    obtain ⟨ys, q⟩ := R.mem (List.mem_of_getElem? e1)
    exact upd_ne (ne_of_none q hn)) (R.ob r a u e1 e2)⟩
theorem big_line {n : Nat} (h : n ≤ 1000000) : n ≤ sizeLine := Nat.le_trans h (by decide)
theorem big_line' {n : Nat} (h : n ≤ 1000000) : n < sizeLine := Nat.lt_of_le_of_lt h (by decide)
theorem cap_post {α β : Type} {rel : Hp → List Addr → Hp → α → β → Prop} {K : PySem.W.Frag} {C : CT} {W : WXe} {m : List Addr} {H : Hp} {μ : Hq} {n : Nat} {r : R α} {Q : β → Hp → Prop} (h : Post rel K C W m H μ (cap n r) Q) : n ≤ 1000000 ∧ Post rel K C W m H μ r Q := by
  unfold cap at h
  by_cases z : n ≤ 1000000
  · rw [if_pos z] at h; exact ⟨z, h⟩
  · rw [if_neg z] at h; exact h.elim
/-- a new tuple handed back -/
theorem new_tup {K : PySem.W.Frag} {C : CT} {W : WXe} {m : List Addr} {H : Hp} {μ : Hq} {ds : List D} {vs : List V} {Q : VK} {p : Addr} (R : Rp K m H μ) (hd : DsR K m H ds vs) (h : Post (TR K) K C W m H μ (.ok (.val (.tup ds)) μ) Q) (hn : H p = none) : Q (.ref p) (upd H p (.tup vs)) := by
  have E : Ext m H μ m (upd H p (.tup vs)) μ := Ext.laid R hn
  refine h m _ _ E (R.laid hn) (TR.val ?_)
  unfold DR
  exact ⟨p, vs, rfl, .inl (.inl upd_same), hd.ext E R⟩
/-- a new list handed back -/
theorem new_lst {K : PySem.W.Frag} {C : CT} {W : WXe} {m : List Addr} {H : Hp} {μ : Hq} {ds : List D} {vs : List V} {Q : VK} {p : Addr} (R : Rp K m H μ) (hd : DsR K m H ds vs) (h : Post (TR K) K C W m H μ (.ok (.new (.lst ds)) μ) Q) (hn : H p = none) : Q (.ref p) (upd H p (.lst vs)) := by
  have E : Ext m H μ m (upd H p (.lst vs)) μ := Ext.laid R hn
  exact h m _ _ E (R.laid hn) ⟨⟨p, vs, rfl, R.fresh hn, upd_same, hd.ext E R⟩, fun o a _ e => by cases e; exact hn⟩
theorem ev_tup {k : Nat} (h : PA X es (tA X.K C W as)) : PE X (.Tuple es k pos) (tE X.K C W (eTup as)) := by
  refine PE.imp (pe_tup h) fun σ H Q h => ?_
  obtain ⟨m, ρ, μ, R0, E0, P⟩ := h
  refine ⟨m, ρ, μ, R0, E0, (Post.bind relTR P).mono fun vs H1 ⟨m1, μ1, ds, E, R1, T1, _, P1, _⟩ => ?_⟩
  obtain ⟨hz, P1⟩ := cap_post P1
  exact ⟨by rw [← T1.length]; exact big_line hz, fun p hn => new_tup R1 T1 P1 hn⟩
theorem ev_lst (h : PA X es (tA X.K C W as)) : PE X (.List es pos) (tE X.K C W (eLst as)) := by
  refine PE.imp (pe_lst h) fun σ H Q h => ?_
  obtain ⟨m, ρ, μ, R0, E0, P⟩ := h
  refine ⟨m, ρ, μ, R0, E0, (Post.bind relTR P).mono fun vs H1 ⟨m1, μ1, ds, E, R1, T1, _, P1, _⟩ => ?_⟩
  obtain ⟨hz, P1⟩ := cap_post P1
  exact ⟨by rw [← T1.length]; exact big_line hz, fun p hn => new_lst R1 T1 P1 hn⟩

/-! ### sequences at hand -/
theorem lq_TC {K : PySem.W.Frag} {m : List Addr} {H : Hp} {μ : Hq} {t : Tv} {v : V} {xs : List D} (R : Rp K m H μ) (h : TC K m H t v) (e : lq μ t = some xs) : ∃ a vs, v = .ref a ∧ SqL K H a vs ∧ DsR K m H xs vs := by
  unfold lq at e
  split at e
  · rename_i r
    have h : DR K m H (.ref r) v := h
    unfold DR at h
    obtain ⟨a, ev, h1⟩ := h
    cases q : μ[r]? with
    | none => rw [q] at e; cases e
    | some o =>
      rw [q] at e
      have ob := R.ob r a o h1 q
      cases o with
      | lst ys => obtain ⟨vs, e2, e3⟩ := ob; cases e; exact ⟨a, vs, ev, .of e2, e3⟩
      | fz ys => obtain ⟨vs, e2, e3⟩ := ob; cases e; exact ⟨a, vs, ev, .of e2, e3⟩
      | dic _ => cases e
      | fd _ => cases e
  · cases e
    have h : DR K m H (.fl xs) v := h
    unfold DR at h
    obtain ⟨a, vs, e, h1, h2⟩ := h
    exact ⟨a, vs, e, h1.now, h2⟩
  · cases e
    obtain ⟨a, vs, ev, _, e2, e3⟩ := h
    exact ⟨a, vs, ev, .of e2, e3⟩
  · cases e
theorem tup_TC {K : PySem.W.Frag} {m : List Addr} {H : Hp} {xs : List D} {v : V} (h : TC K m H (.val (.tup xs)) v) : ∃ a vs, v = .ref a ∧ SqT K H a vs ∧ DsR K m H xs vs := by
  have h : DR K m H (.tup xs) v := h
  unfold DR at h; exact h
theorem int_TC {K : PySem.W.Frag} {m : List Addr} {H : Hp} {i : Int} {v : V} (h : TC K m H (.val (.int i)) v) : v = .int i := by
  have h : DR K m H (.int i) v := h
  unfold DR at h; exact h
theorem bl_TC {K : PySem.W.Frag} {m : List Addr} {H : Hp} {i : Bool} {v : V} (h : TC K m H (.val (.bl i)) v) : v = .bl i := by
  have h : DR K m H (.bl i) v := h
  unfold DR at h; exact h
theorem str_TC {K : PySem.W.Frag} {m : List Addr} {H : Hp} {i : Str} {v : V} (h : TC K m H (.val (.str i)) v) : v = .str i := by
  have h : DR K m H (.str i) v := h
  unfold DR at h; exact h
theorem non_TC {K : PySem.W.Frag} {m : List Addr} {H : Hp} {v : V} (h : TC K m H (.val .non) v) : v = .non := by
  have h : DR K m H .non v := h
  unfold DR at h; exact h
theorem sq_TC {K : PySem.W.Frag} {m : List Addr} {H : Hp} {μ : Hq} {t : Tv} {v : V} {xs : List D} (R : Rp K m H μ) (h : TC K m H t v) (e : sq μ t = some xs) : ∃ a vs, v = .ref a ∧ (SqL K H a vs ∨ SqT K H a vs) ∧ DsR K m H xs vs := by
  unfold sq at e
  split at e
  · cases e
    obtain ⟨a, vs, ev, h1, h2⟩ := tup_TC h
    exact ⟨a, vs, ev, .inr h1, h2⟩
  · obtain ⟨a, vs, ev, h1, h2⟩ := lq_TC (μ := μ) R h e
    exact ⟨a, vs, ev, .inl h1, h2⟩
theorem DsR.isEmpty {K : PySem.W.Frag} {m : List Addr} {H : Hp} {ds : List D} {vs : List V} (h : DsR K m H ds vs) : vs.isEmpty = ds.isEmpty := by
  have := h.length
  cases ds <;> cases vs <;> simp_all
/-! ### truth -/
theorem tru_TC {K : PySem.W.Frag} {m : List Addr} {H : Hp} {μ : Hq} {t : Tv} {v : V} {k : Bool} (R : Rp K m H μ) (h : TC K m H t v) (e : tru μ t = some k) : TruV K v H k := by
  unfold tru at e
  split at e
  · cases e; rw [non_TC h]; rfl
  · cases e; rw [bl_TC h]; rfl
  · cases e; rw [int_TC h]; rfl
  · rename_i s
    split at e
    · rename_i hz
      cases e; rw [str_TC h]
      refine ⟨big_line hz, ?_⟩
      cases q : s.length with
      | zero => rfl
      | succ n => simp; omega
    · cases e
  · split at e
    · rename_i xs hs
      cases e
      obtain ⟨a, vs, rfl, h1, h2⟩ := sq_TC R h hs
      rcases h1 with h1 | h1
      · exact .inl ⟨vs, h1, by rw [h2.isEmpty]⟩
      · exact .inr (.inl ⟨vs, h1, by rw [h2.isEmpty]⟩)
    · cases e
theorem tv_of {e : Expr} {fe : EF} (he : PE X e (tE X.K C W fe)) (hp : ∀ whole, isTrue e X.env whole = (do let v ← whole; standAt e.pos; holding [v] (truthy v)) := by intro _; rfl) : PT X e (tT X.K C W (tV fe)) := by
  refine PT.imp (pt_truth he hp) fun σ H Q h => ?_
  obtain ⟨m, ρ, μ, R0, E0, P⟩ := h
  refine ⟨m, ρ, μ, R0, E0, (Post.bind (fun _ _ _ _ _ _ _ _ _ _ _ _ h => h) P).mono fun v H1 ⟨m1, μ1, t, E, R1, T1, _, P1, _⟩ => ?_⟩
  cases q : tru μ1 t with
  | none => rw [q] at P1; exact P1.elim
  | some k =>
    rw [q] at P1
    exact ⟨k, tru_TC R1 T1.1 q, Post.ok R1 P1 rfl⟩
end
end Mi
end
section
set_option Elab.async false
set_option linter.all false
set_option maxRecDepth 100000
set_option maxHeartbeats 1000000
/-! MiD: tests, built-ins, subscripts, calls. -/
namespace Mi
open PySem PySem.Spec PyProof.Rows L2
abbrev trivB {α β : Type} {rel : List Addr → Hp → α → β → Prop} {K : PySem.W.Frag} : RelB K (fun (_ : Hp) m H a b => rel m H a b) := fun _ _ _ _ _ _ _ _ _ _ _ _ h => h
theorem relBB {K : PySem.W.Frag} : RelB K relB := fun _ _ _ _ _ _ _ _ _ _ _ _ h => h
theorem relDB {K : PySem.W.Frag} : RelB K (relD K) := fun _ _ _ _ _ _ _ _ _ _ _ _ h => h
theorem relEB {K : PySem.W.Frag} : RelB K (relE K) := fun _ _ _ _ _ _ _ _ _ _ _ _ h => h
section
variable {X : Cx} {C : CT} {W : WX} {a b c : Expr} {fa fb : EF} {fc fr : TF} {es rest : List Expr} {as : AF} {pos : Pos}

/-! ### and, or, not as tests -/
theorem tv_not (h : PT X a (tT X.K C W fc)) : PT X (.UnaryOp .Not a pos) (tT X.K C W (tNot fc)) := by
  refine PT.imp (pt_not h) fun σ H Q h => ?_
  obtain ⟨m, ρ, μ, R0, E0, P⟩ := h
  refine ⟨m, ρ, μ, R0, E0, (Post.bind relBB P).mono fun v H1 ⟨m1, μ1, k, E, R1, T1, P0, P1, ex⟩ => ?_⟩
  subst T1
  exact Post.ok R1 P1 rfl
theorem tv_and1 (h : PT X a (tT X.K C W fc)) : PW X (.BoolOp .And [a] pos) (tT X.K C W fc) := pw_and1 h
theorem tv_or1 (h : PT X a (tT X.K C W fc)) : PW X (.BoolOp .Or [a] pos) (tT X.K C W fc) := pw_or1 h
theorem tv_and (h : PT X a (tT X.K C W fc)) (g : PW X (.BoolOp .And (b :: rest) pos) (tT X.K C W fr)) : PW X (.BoolOp .And (a :: b :: rest) pos) (tT X.K C W (tAnd fc fr)) := by
  refine PW.imp (pw_and h g) fun σ H Q h => ?_
  obtain ⟨m, ρ, μ, R0, E0, P⟩ := h
  refine ⟨m, ρ, μ, R0, E0, (Post.bind relBB P).mono fun v H1 ⟨m1, μ1, k, E, R1, T1, P0, P1, ex⟩ => ?_⟩
  subst T1
  cases k with
  | true => exact iteT ⟨m1, ρ, μ1, R1, E0.ext E R0, P1⟩
  | false => exact iteF (Post.ok R1 P1 rfl)
theorem tv_or (h : PT X a (tT X.K C W fc)) (g : PW X (.BoolOp .Or (b :: rest) pos) (tT X.K C W fr)) : PW X (.BoolOp .Or (a :: b :: rest) pos) (tT X.K C W (tOr fc fr)) := by
  refine PW.imp (pw_or h g) fun σ H Q h => ?_
  obtain ⟨m, ρ, μ, R0, E0, P⟩ := h
  refine ⟨m, ρ, μ, R0, E0, (Post.bind relBB P).mono fun v H1 ⟨m1, μ1, k, E, R1, T1, P0, P1, ex⟩ => ?_⟩
  subst T1
  cases k with
  | true => exact iteT (Post.ok R1 P1 rfl)
  | false => exact iteF ⟨m1, ρ, μ1, R1, E0.ext E R0, P1⟩
/-- an operator whose answers are True or False -/
def BlOp (op : O2) : Prop := ∀ x y μ t μ', op x y μ = .ok t μ' → ∃ k, t = vb k
/-- a comparison as a test -/
theorem tv_cmp {o : CmpOp} {op : O2} {r : R2} (hr : OpR X (compareOp o) r) (ho : Op2 X.K op r) (hb' : BlOp op)
    (ha : PE X a (tE X.K C W fa)) (hb : PE X b (tE X.K C W fb)) (hm : behindInMarks o b = false) : PT X (.Compare a [o] [b] pos) (tT X.K C W (tV (e2 op fa fb))) := by
  refine PT.imp (pt_cmpR hr ha hb hm) fun σ H Q h => ?_
  obtain ⟨m, ρ, μ, R0, E0, P⟩ := h
  have P' : Post (TR X.K) X.K C (fun c d H => W c d σ H) m H μ (e2 op fa fb ρ μ) fun z H' => ∃ k, z = .bl k ∧ Q k H' := by
    refine (Post.bind relBB P).mono fun v H1 ⟨m1, μ1, t, E, R1, T1, P0, P1, ex⟩ => ?_
    obtain ⟨k, rfl⟩ : ∃ k, t = vb k := by
      unfold e2 at ex
      cases q : fa ρ μ with
      | ok x μ2 =>
        rw [q] at ex
        cases q2 : fb ρ μ2 with
        | ok y μ3 =>
          have ex : (fb ρ μ2).bind (fun y μ2 => op x y μ2) = R.ok t μ1 := ex
          rw [q2] at ex; exact hb' x y μ3 t μ1 ex
        | exc _ _ _ =>
          have ex : (fb ρ μ2).bind (fun y μ2 => op x y μ2) = R.ok t μ1 := ex
          rw [q2] at ex; cases ex
        | fail =>
          have ex : (fb ρ μ2).bind (fun y μ2 => op x y μ2) = R.ok t μ1 := ex
          rw [q2] at ex; cases ex
      | exc _ _ _ => rw [q] at ex; cases ex
      | fail => rw [q] at ex; cases ex
    exact ⟨k, bl_TC T1.1, Post.ok R1 P1 rfl⟩
  exact e2_to ho ⟨m, ρ, μ, R0, E0, P'⟩
theorem ev_if (hc : PT X c (tT X.K C W fc)) (ha : PE X a (tE X.K C W fa)) (hb : PE X b (tE X.K C W fb)) : PE X (.IfExp c a b pos) (tE X.K C W (eIf fc fa fb)) := by
  refine PE.imp (pe_ifExp hc ha hb) fun σ H Q h => ?_
  obtain ⟨m, ρ, μ, R0, E0, P⟩ := h
  refine ⟨m, ρ, μ, R0, E0, (Post.bind relTR P).mono fun v H1 ⟨m1, μ1, k, E, R1, T1, P0, P1, ex⟩ => ?_⟩
  subst T1
  cases k with
  | true => exact iteT ⟨m1, ρ, μ1, R1, E0.ext E R0, P1⟩
  | false => exact iteF ⟨m1, ρ, μ1, R1, E0.ext E R0, P1⟩
theorem ev_and1 (h : PE X a (tE X.K C W fa)) : PE X (.BoolOp .And [a] pos) (tE X.K C W fa) := pe_one h
theorem ev_or1 (h : PE X a (tE X.K C W fa)) : PE X (.BoolOp .Or [a] pos) (tE X.K C W fa) := pe_one h
theorem ev_and (h : PE X a (tE X.K C W fa)) (g : PE X (.BoolOp .And (b :: rest) pos) (tE X.K C W fb)) : PE X (.BoolOp .And (a :: b :: rest) pos) (tE X.K C W (eAnd fa fb)) := by
  refine PE.imp (pe_andT h g) fun σ H Q h => ?_
  obtain ⟨m, ρ, μ, R0, E0, P⟩ := h
  refine ⟨m, ρ, μ, R0, E0, (Post.bind relTR P).mono fun v H1 ⟨m1, μ1, t, E, R1, T1, P0, P1, ex⟩ => ?_⟩
  cases q : tru μ1 t with
  | none => rw [q] at P1; exact P1.elim
  | some k =>
    rw [q] at P1 P0
    refine ⟨k, tru_TC R1 T1.1 q, ?_⟩
    cases k with
    | true => exact iteT ⟨m1, ρ, μ1, R1, E0.ext E R0, P1⟩
    | false => exact iteF (P0 m1 H1 v E R1 T1)
theorem ev_or (h : PE X a (tE X.K C W fa)) (g : PE X (.BoolOp .Or (b :: rest) pos) (tE X.K C W fb)) : PE X (.BoolOp .Or (a :: b :: rest) pos) (tE X.K C W (eOr fa fb)) := by
  refine PE.imp (pe_orT h g) fun σ H Q h => ?_
  obtain ⟨m, ρ, μ, R0, E0, P⟩ := h
  refine ⟨m, ρ, μ, R0, E0, (Post.bind relTR P).mono fun v H1 ⟨m1, μ1, t, E, R1, T1, P0, P1, ex⟩ => ?_⟩
  cases q : tru μ1 t with
  | none => rw [q] at P1; exact P1.elim
  | some k =>
    rw [q] at P1 P0
    refine ⟨k, tru_TC R1 T1.1 q, ?_⟩
    cases k with
    | true => exact iteT (P0 m1 H1 v E R1 T1)
    | false => exact iteF ⟨m1, ρ, μ1, R1, E0.ext E R0, P1⟩
theorem bl_TR {K : PySem.W.Frag} {H H' : Hp} {m' : List Addr} {k : Bool} : TR K H m' H' (vb k) (.bl k) := TR.val (by unfold DR; rfl)
theorem int_TR {K : PySem.W.Frag} {H H' : Hp} {m' : List Addr} {k : Int} : TR K H m' H' (vi k) (.int k) := TR.val (by unfold DR; rfl)
theorem str_TR {K : PySem.W.Frag} {H H' : Hp} {m' : List Addr} {k : Str} : TR K H m' H' (.val (.str k)) (.str k) := TR.val (by unfold DR; rfl)
theorem non_TR {K : PySem.W.Frag} {H H' : Hp} {m' : List Addr} : TR K H m' H' (.val .non) .non := TR.val (by unfold DR; rfl)
theorem ev_not (h : PE X a (tE X.K C W fa)) : PE X (.UnaryOp .Not a pos) (tE X.K C W (eNot fa)) := by
  refine PE.imp (pe_notT h) fun σ H Q h => ?_
  obtain ⟨m, ρ, μ, R0, E0, P⟩ := h
  refine ⟨m, ρ, μ, R0, E0, (Post.bind relTR P).mono fun v H1 ⟨m1, μ1, t, E, R1, T1, P0, P1, ex⟩ => ?_⟩
  cases q : tru μ1 t with
  | none => rw [q] at P1; exact P1.elim
  | some k => rw [q] at P1; exact ⟨k, tru_TC R1 T1.1 q, Post.ok R1 P1 bl_TR⟩

/-! ### built-ins of one argument -/
theorem ev_b1 {id : String} {x : Str} {p : Pos} {r : List V → Hp → VK → Prop} {op : O1} (hc : CallR X (.builtin id) r) (ho : Op1 X.K op fun v H Q => r [v] H Q) (hg : Gl X x) (hm : X.mg x = none) (hv : bootBuiltins x = some (.builtin id)) (ha : PE X a (tE X.K C W fa))
    (hn : x ≠ "__name__" := by decide) (hdb : (x == ("__debug__" : Str)) = false := by decide) (he : starEach [a] X.env = (false, eval a X.env) :: starEach [] X.env := by rfl) (hpl : (backTo pos (starEach [] X.env)).any (·.1) = false := by rfl) :
    PE X (.Call (.Name x p) [a] [] pos) (tE X.K C W (e1 op fa)) :=
  PE.imp (pe_callB hc hg hm hv (pa_cons ha pa_nil he) hn hdb he hpl) fun _ _ _ h => e1_to ho h
theorem ev_t1 {T : String} {x : Str} {p : Pos} {r : List V → Hp → VK → Prop} {op : O1} (hc : CallR X (.type T) r) (ho : Op1 X.K op fun v H Q => r [v] H Q) (hg : Gl X x) (hm : X.mg x = none) (hv : bootBuiltins x = some (.type T)) (ha : PE X a (tE X.K C W fa))
    (hn : x ≠ "__name__" := by decide) (hdb : (x == ("__debug__" : Str)) = false := by decide) (he : starEach [a] X.env = (false, eval a X.env) :: starEach [] X.env := by rfl) (hpl : (backTo pos (starEach [] X.env)).any (·.1) = false := by rfl) :
    PE X (.Call (.Name x p) [a] [] pos) (tE X.K C W (e1 op fa)) :=
  PE.imp (pe_callTy hc hg hm hv (pa_cons ha pa_nil he) hn hdb he hpl) fun _ _ _ h => e1_to ho h
end

/-! ### what each operator is -/
section
variable {K : PySem.W.Frag}
theorem o_abs : Op1 K opAbs fun v H Q => ∃ i, [v] = [V.int i] ∧ Q (.int (if i < 0 then -i else i)) H := by
  intro C W m H μ x v Q R T P
  unfold opAbs at P
  split at P
  · exact ⟨_, by rw [int_TC T], Post.ok R P int_TR⟩
  · exact P.elim
theorem o_int : Op1 K opInt fun v H Q => (∃ i, [v] = [V.int i] ∧ Q (.int i) H) ∨ ∃ k, [v] = [V.bl k] ∧ Q (.int (if k then 1 else 0)) H := by
  intro C W m H μ x v Q R T P
  unfold opInt at P
  split at P
  · exact .inl ⟨_, by rw [int_TC T], Post.ok R P int_TR⟩
  · exact .inr ⟨_, by rw [bl_TC T], Post.ok R P int_TR⟩
  · exact P.elim
theorem o_len : Op1 K opLen fun v H Q => ∃ x n, [v] = [x] ∧ LenV K x H n ∧ Q (.int n) H := by
  intro C W m H μ x v Q R T P
  unfold opLen at P
  split at P
  · obtain ⟨hz, P⟩ := cap_post P
    exact ⟨_, _, rfl, by rw [str_TC T]; exact ⟨big_line hz, rfl⟩, Post.ok R P int_TR⟩
  · split at P
    · rename_i xs hs
      obtain ⟨a, vs, rfl, h1, h2⟩ := sq_TC R T hs
      refine ⟨_, xs.length, rfl, ?_, Post.ok R P int_TR⟩
      rcases h1 with h1 | h1
      · exact .inl ⟨vs, h1, h2.length⟩
      · exact .inr ⟨vs, h1, h2.length⟩
    · exact P.elim
theorem nums_DsR {m : List Addr} {H : Hp} : ∀ {ds : List D} {vs : List V} {ns : List Int}, nums ds = some ns → DsR K m H ds vs → vs = ns.map V.int
  | [], vs, ns, e, h => by unfold nums at e; cases e; rw [h.nil_iff]; rfl
  | d :: ds, vs, ns, e, h => by
    obtain ⟨v, t, rfl, h1, h2⟩ := h.cons_iff
    cases d <;> unfold nums at e <;> try cases e
    cases q : nums ds with
    | none => rw [q] at e; cases e
    | some r =>
      rw [q] at e; cases e
      unfold DR at h1
      rw [h1, nums_DsR q h2]; rfl
theorem bls_DsR {m : List Addr} {H : Hp} : ∀ {ds : List D} {vs : List V} {ns : List Bool}, bls ds = some ns → DsR K m H ds vs → vs = ns.map V.bl
  | [], vs, ns, e, h => by unfold bls at e; cases e; rw [h.nil_iff]; rfl
  | d :: ds, vs, ns, e, h => by
    obtain ⟨v, t, rfl, h1, h2⟩ := h.cons_iff
    cases d <;> unfold bls at e <;> try cases e
    cases q : bls ds with
    | none => rw [q] at e; cases e
    | some r =>
      rw [q] at e; cases e
      unfold DR at h1
      rw [h1, bls_DsR q h2]; rfl
theorem o_all : Op1 K opAll fun v H Q => rAll K [v] H Q := by
  intro C W m H μ x v Q R T P
  unfold opAll at P
  split at P
  · rename_i bs hb
    obtain ⟨xs, hx, hb⟩ := Option.bind_eq_some_iff.mp hb
    obtain ⟨a, vs, rfl, h1, h2⟩ := lq_TC R T hx
    rw [bls_DsR hb h2] at h1
    exact ⟨a, bs, rfl, h1, Post.ok R P bl_TR⟩
  · exact P.elim
theorem o_any : Op1 K opAny fun v H Q => rAny K [v] H Q := by
  intro C W m H μ x v Q R T P
  unfold opAny at P
  split at P
  · rename_i bs hb
    obtain ⟨xs, hx, hb⟩ := Option.bind_eq_some_iff.mp hb
    obtain ⟨a, vs, rfl, h1, h2⟩ := lq_TC R T hx
    rw [bls_DsR hb h2] at h1
    exact ⟨a, bs, rfl, h1, Post.ok R P bl_TR⟩
  · exact P.elim
theorem o_sum : Op1 K opSum fun v H Q => rSum K [v] H Q := by
  intro C W m H μ x v Q R T P
  unfold opSum at P
  split at P
  · rename_i bs hb
    obtain ⟨xs, hx, hb⟩ := Option.bind_eq_some_iff.mp hb
    obtain ⟨a, vs, rfl, h1, h2⟩ := lq_TC R T hx
    rw [nums_DsR hb h2] at h1
    exact ⟨a, bs, rfl, h1, Post.ok R P int_TR⟩
  · exact P.elim
theorem o_tuple : Op1 K opTuple fun v H Q => ∃ p ys, [v] = [V.ref p] ∧ ((SqL K H p ys ∧ ∀ l, H l = none → Q (.ref l) (upd H l (.tup ys))) ∨ (SqT K H p ys ∧ Q (.ref p) H)) := by
  intro C W m H μ x v Q R T P
  unfold opTuple at P
  split at P
  · obtain ⟨a, vs, rfl, h1, h2⟩ := tup_TC T
    exact ⟨a, vs, rfl, .inr ⟨h1, Post.ok R P ⟨T, Frs.val⟩⟩⟩
  · split at P
    · rename_i xs hx
      obtain ⟨a, vs, rfl, h1, h2⟩ := lq_TC R T hx
      exact ⟨a, vs, rfl, .inl ⟨h1, fun l hl => new_tup R h2 P hl⟩⟩
    · exact P.elim
theorem o_list : Op1 K opList fun v H Q => ∃ p ys, [v] = [V.ref p] ∧ (SqL K H p ys ∨ SqT K H p ys) ∧ ∀ l, H l = none → Q (.ref l) (upd H l (.lst ys)) := by
  intro C W m H μ x v Q R T P
  unfold opList at P
  split at P
  · rename_i xs hx
    obtain ⟨a, vs, rfl, h1, h2⟩ := sq_TC R T hx
    exact ⟨a, vs, rfl, h1, fun l hl => new_lst R h2 P hl⟩
  · exact P.elim
theorem o_neg : Op1 K opNeg (rU fun i => .int (-i)) := by
  intro C W m H μ x v Q R T P
  unfold opNeg at P
  split at P
  · exact ⟨_, int_TC T, Post.ok R P int_TR⟩
  · exact P.elim
theorem o_sub : Op2 K opSub (rI0 fun i j => .int (i - j)) := by
  intro C W m H μ x y v1 v2 Q R T1 T2 P
  unfold opSub at P
  split at P
  · exact ⟨_, _, int_TC T1, int_TC T2, Post.ok R P int_TR⟩
  · exact P.elim
theorem o_lt : Op2 K opLt (rI0 fun i j => .bl (decide (i < j))) := by
  intro C W m H μ x y v1 v2 Q R T1 T2 P
  unfold opLt at P
  split at P
  · exact ⟨_, _, int_TC T1, int_TC T2, Post.ok R P bl_TR⟩
  · exact P.elim
theorem o_le : Op2 K opLe (rI0 fun i j => .bl (decide (i ≤ j))) := by
  intro C W m H μ x y v1 v2 Q R T1 T2 P
  unfold opLe at P
  split at P
  · exact ⟨_, _, int_TC T1, int_TC T2, Post.ok R P bl_TR⟩
  · exact P.elim
theorem o_gt : Op2 K opGt (rI0 fun i j => .bl (decide (j < i))) := by
  intro C W m H μ x y v1 v2 Q R T1 T2 P
  unfold opGt at P
  split at P
  · exact ⟨_, _, int_TC T1, int_TC T2, Post.ok R P bl_TR⟩
  · exact P.elim
theorem o_ge : Op2 K opGe (rI0 fun i j => .bl (decide (j ≤ i))) := by
  intro C W m H μ x y v1 v2 Q R T1 T2 P
  unfold opGe at P
  split at P
  · exact ⟨_, _, int_TC T1, int_TC T2, Post.ok R P bl_TR⟩
  · exact P.elim
end
end Mi
end
section
set_option Elab.async false
set_option linter.all false
set_option maxRecDepth 100000
set_option maxHeartbeats 1000000
/-! MiE: more operators. -/
namespace Mi
open PySem PySem.Spec PyProof.Rows L2
section
variable {K : PySem.W.Frag}
theorem bl_lt : BlOp opLt := by
  intro x y μ t μ' h
  unfold opLt at h
  split at h
  · cases h; exact ⟨_, rfl⟩
  · cases h
theorem bl_le : BlOp opLe := by
  intro x y μ t μ' h
  unfold opLe at h
  split at h
  · cases h; exact ⟨_, rfl⟩
  · cases h
theorem bl_gt : BlOp opGt := by
  intro x y μ t μ' h
  unfold opGt at h
  split at h
  · cases h; exact ⟨_, rfl⟩
  · cases h
theorem bl_ge : BlOp opGe := by
  intro x y μ t μ' h
  unfold opGe at h
  split at h
  · cases h; exact ⟨_, rfl⟩
  · cases h
theorem bl_eq : BlOp opEq := by
  intro x y μ t μ' h
  unfold opEq at h
  split at h
  · cases h; exact ⟨_, rfl⟩
  · cases h
theorem bl_ne : BlOp opNe := by
  intro x y μ t μ' h
  unfold opNe at h
  split at h
  · cases h; exact ⟨_, rfl⟩
  · cases h
theorem mod_pos {i j : Int} (h : 0 < j) : True := trivial
theorem o_mod : Op2 K opMod (rI (fun _ j => 0 < j) fun i j => .int (i % j)) := by
  intro C W m H μ x y v1 v2 Q R T1 T2 P
  unfold opMod at P
  split at P
  · rename_i i j
    by_cases hj : 0 < j
    · rw [if_pos hj] at P
      exact ⟨_, _, int_TC T1, int_TC T2, hj, Post.ok R P int_TR⟩
    · rw [if_neg hj] at P; exact P.elim
  · exact P.elim
/-- the two rules of // -/
def rDiv : R2 := fun x y H Q => rI CDiv (fun i j => .int (i / j)) x y H Q ∨ rI CDivW (fun i j => .int (i / j)) x y H Q
theorem op_div {X : Cx} : OpR X (binaryOp .FloorDiv) rDiv := op_fdiv.or op_fdivW
theorem o_div : Op2 K opDiv rDiv := by
  intro C W m H μ x y v1 v2 Q R T1 T2 P
  unfold opDiv at P
  split at P
  · rename_i i j
    by_cases hj : 0 < j
    · rw [if_pos hj] at P
      by_cases hs : j < 1073741824
      · rw [if_pos hs] at P
        exact .inl ⟨_, _, int_TC T1, int_TC T2, ⟨hj, hs⟩, Post.ok R P int_TR⟩
      · rw [if_neg hs] at P
        by_cases hw : j.natAbs.log2 < 9000
        · rw [if_pos hw] at P
          exact .inr ⟨_, _, int_TC T1, int_TC T2, ⟨hj, hw⟩, Post.ok R P int_TR⟩
        · rw [if_neg hw] at P; exact P.elim
    · rw [if_neg hj] at P; exact P.elim
  · exact P.elim
/-- the rules of +: ints, texts, tuples, lists -/
def rAddA (K : PySem.W.Frag) : R2 := fun x y H Q => rI0 (fun i j => .int (i + j)) x y H Q ∨ ((∃ i j, x = .str i ∧ y = .str j ∧ i.length + j.length ≤ sizeLine ∧ Q (.str (i ++ j)) H) ∨ (rCatA K x y H Q ∨ rCat x y H Q))
theorem op_addA {X : Cx} : OpR X (binaryOp .Add) (rAddA X.K) := op_add.or (op_add_str.or (op_catA.or op_cat))
theorem mq_TC {m : List Addr} {H : Hp} {μ : Hq} {t : Tv} {v : V} {xs : List D} (R : Rp K m H μ) (h : TC K m H t v) (e : mq μ t = some xs) : ∃ a vs, v = .ref a ∧ H a = some (.lst vs) ∧ DsR K m H xs vs := by
  unfold mq at e
  split at e
  · rename_i r
    have h : DR K m H (.ref r) v := h
    unfold DR at h
    obtain ⟨a, ev, h1⟩ := h
    cases q : μ[r]? with
    | none => rw [q] at e; cases e
    | some o =>
      rw [q] at e
      have ob := R.ob r a o h1 q
      cases o with
      | lst ys => obtain ⟨vs, e2, e3⟩ := ob; cases e; exact ⟨a, vs, ev, e2, e3⟩
      | fz ys => obtain ⟨vs, e2, e3⟩ := ob; cases e; exact ⟨a, vs, ev, e2, e3⟩
      | dic _ => cases e
      | fd _ => cases e
  · cases e
    obtain ⟨a, vs, ev, _, e2, e3⟩ := h
    exact ⟨a, vs, ev, e2, e3⟩
  · cases e
theorem DsR.nil_of {m : List Addr} {H : Hp} {ds : List D} {vs : List V} (h : DsR K m H ds vs) : vs = [] ↔ ds = [] := by
  have := h.length
  cases ds <;> cases vs <;> simp_all
theorem o_add : Op2 K opAdd (rAddA K) := by
  intro C W m H μ x y v1 v2 Q R T1 T2 P
  unfold opAdd at P
  split at P
  · exact .inl ⟨_, _, int_TC T1, int_TC T2, Post.ok R P int_TR⟩
  · obtain ⟨hz, P⟩ := cap_post P
    exact .inr (.inl ⟨_, _, str_TC T1, str_TC T2, big_line hz, Post.ok R P str_TR⟩)
  · rename_i xs ys
    obtain ⟨hz, P⟩ := cap_post P
    obtain ⟨a, vs, rfl, h1, h2⟩ := tup_TC T1
    obtain ⟨b, ws, rfl, g1, g2⟩ := tup_TC T2
    refine .inr (.inr (.inl ⟨a, b, vs, ws, rfl, rfl, h1, g1, by rw [← h2.length, ← g2.length]; exact big_line hz, fun e => ?_, fun _ e => ?_, fun _ _ p hp => new_tup R (h2.append g2) P hp⟩))
    · have e' := h2.nil_of.mp e
      subst e'
      exact Post.ok R P ⟨by rw [List.nil_append]; exact T2, Frs.val⟩
    · have e' := g2.nil_of.mp e
      subst e'
      exact Post.ok R P ⟨by rw [List.append_nil]; exact T1, Frs.val⟩
  · split at P
    · rename_i xs ys hx hy
      obtain ⟨hz, P⟩ := cap_post P
      obtain ⟨a, vs, rfl, h1, h2⟩ := mq_TC R T1 hx
      obtain ⟨b, ws, rfl, g1, g2⟩ := mq_TC R T2 hy
      exact .inr (.inr (.inr ⟨a, b, vs, ws, rfl, rfl, h1, g1, by rw [← h2.length, ← g2.length]; exact big_line hz, fun p hp => new_lst R (h2.append g2) P hp⟩))
    · exact P.elim
/-! subscripts -/
theorem ixq_eq (n : Nat) (i : Int) : ixq n i = ixN n i := rfl
theorem at_TC {m : List Addr} {H : Hp} {ds : List D} {vs : List V} {i : Int} {d : D} (h : DsR K m H ds vs) (e : at? ds i = some d) : ∃ v, atI vs i = some v ∧ DR K m H d v := by
  unfold at? at e
  cases q : ixq ds.length i with
  | none => rw [q] at e; cases e
  | some j =>
    rw [q] at e
    obtain ⟨v, e1, e2⟩ := h.get e
    refine ⟨v, ?_, e2⟩
    unfold atI
    rw [← h.length, ← ixq_eq, q]; exact e1
/-- a list's or tuple's item -/
theorem o_ix : Op2 K opIx (rIx K) := by
  intro C W m H μ x y v1 v2 Q R T1 T2 P
  unfold opIx at P
  split at P
  · rename_i i
    split at P
    · rename_i xs hx
      split at P
      · rename_i d hd
        obtain ⟨a, vs, rfl, h1, h2⟩ := sq_TC R T1 hx
        obtain ⟨w, e1, e2⟩ := at_TC h2 hd
        rcases h1 with h1 | h1
        · exact .inl ⟨a, vs, i, w, rfl, int_TC T2, h1, e1, Post.ok R P (TR.val e2)⟩
        · exact .inr (.inl ⟨a, vs, i, w, rfl, int_TC T2, h1, e1, Post.ok R P (TR.val e2)⟩)
      · exact P.elim
    · exact P.elim
  · exact P.elim
/-! isinstance -/
def Ty.name : Ty → String
  | .int => "int" | .bool => "bool" | .str => "str" | .tuple => "tuple" | .list => "list" | .dict => "dict"
theorem lst_Ty {H : Hp} {a : Addr} {vs : List V} (h : SqL K H a vs) : TyX K H (.ref a) (.type "list") := by
  rcases h with (h | ⟨o, h⟩) | ⟨o, its, n, h1, h2, _⟩
  · exact .base (.lst h)
  · exact .base (.frz h)
  · exact .kList h1 h2
theorem tup_Ty {H : Hp} {a : Addr} {vs : List V} (h : SqT K H a vs) : TyX K H (.ref a) (.type "tuple") := by
  rcases h with (h | ⟨o, h⟩) | ⟨o, its, n, h1, h2, _⟩
  · exact .base (.tup h)
  · exact .fTuple h
  · exact .kTuple h1 h2
theorem o_isi {t : Ty} : Op1 K (opIsi t) fun v H Q => rIsi K [v, .ty t.name] H Q := by
  intro C W m H μ x v Q R T P
  unfold opIsi at P
  split at P
  · rename_i b hb
    have fin : ∀ (u : Value), TyX K H v u → (∀ s : String, u = .type s → kitB s t.name = some b) → (∃ s : String, u = .type s) → rIsi K [v, .ty t.name] H Q := fun u ty hk ⟨s, e⟩ => by
      subst e
      exact ⟨v, .ty t.name, _, .type t.name, b, rfl, .ty _, ty, kit_ty (hk s rfl), Post.ok R P bl_TR⟩
    unfold isTy at hb
    split at hb
    · cases hb; exact fin _ (by rw [non_TC T]; exact .base .non) (fun s e => by cases e; cases t <;> decide +kernel) ⟨_, rfl⟩
    · cases hb; exact fin _ (by rw [bl_TC T]; exact .base (.bl _)) (fun s e => by cases e; cases t <;> decide +kernel) ⟨_, rfl⟩
    · cases hb; exact fin _ (by rw [int_TC T]; exact .base (.int _)) (fun s e => by cases e; cases t <;> decide +kernel) ⟨_, rfl⟩
    · cases hb; exact fin _ (by rw [str_TC T]; exact .base (.str _)) (fun s e => by cases e; cases t <;> decide +kernel) ⟨_, rfl⟩
    · cases hb
      obtain ⟨a, vs, rfl, h1, h2⟩ := tup_TC T
      exact fin _ (tup_Ty h1) (fun s e => by cases e; cases t <;> decide +kernel) ⟨_, rfl⟩
    · split at hb
      · rename_i xs hx
        cases hb
        obtain ⟨a, vs, rfl, h1, h2⟩ := lq_TC R T hx
        exact fin _ (lst_Ty h1) (fun s e => by cases e; cases t <;> decide +kernel) ⟨_, rfl⟩
      · cases hb
  · exact P.elim
end
end Mi
end
section
set_option Elab.async false
set_option linter.all false
set_option maxRecDepth 100000
set_option maxHeartbeats 1000000
/-! MiT: t * k for 0, 1 and the empty tuple. -/
namespace Mi
open PySem PySem.Spec PyProof.Rows L2
theorem tuple_mulS (l : Addr) (items : Array Value) (n : Nat) (dd : Option Addr) (sl : Array (Option Value)) (x : Int) (u : Tok) (c0 : (decide (x < -(2 ^ 63)) || decide (x ≥ 2 ^ 63)) = false) (c1 : (items.isEmpty || x == 1) = true) :
    Meets (Builtin.«tuple.__mul__» ⟨[.ref l, .int x u], []⟩) (fun _ R s => s.heap.get? l = some { cls := .type "tuple", dict := dd, data := .seq items n, slots := sl } ∧
      R (.ok (.ret (Value.ref l))) s) :=
  .of_wp fun prog w A R s h => by
    obtain ⟨hp, g, d, tk, os⟩ := s
    obtain ⟨hl, h⟩ := h
    have f1 := AutoSeq1.idx_int
    wp_walk using wpAny_loadPart' hl
    repeat (first
      | (refine wpAny_ite_false (decide_eq_false (by rw [c0]; exact Bool.false_ne_true)) ?_; wp_walk using wpAny_loadPart' hl)
      | (refine wpAny_ite_true (decide_eq_true (by rw [c1])) ?_; wp_walk using wpAny_loadPart' hl))
    exact ⟨_, rfl, h⟩
theorem tuple_mul0 (l : Addr) (items : Array Value) (n : Nat) (dd : Option Addr) (sl : Array (Option Value)) (x : Int) (u : Tok) (c0 : (decide (x < -(2 ^ 63)) || decide (x ≥ 2 ^ 63)) = false) (c1 : (items.isEmpty || x == 1) = false) (c2 : (decide (x ≤ 0) || items.isEmpty) = true) :
    Meets (Builtin.«tuple.__mul__» ⟨[.ref l, .int x u], []⟩) (fun _ R s => s.heap.get? l = some { cls := .type "tuple", dict := dd, data := .seq items n, slots := sl } ∧
      R (.ok (.ret (Value.ref s.heap.objs.size))) { s with heap := s.heap.push { cls := Value.type "tuple", data := Data.seq #[] }, toks := s.toks }) :=
  .of_wp fun prog w A R s h => by
    obtain ⟨hp, g, d, tk, os⟩ := s
    obtain ⟨hl, h⟩ := h
    have f1 := AutoSeq1.idx_int
    wp_walk using wpAny_loadPart' hl
    repeat (first
      | (refine wpAny_ite_false (decide_eq_false (by rw [c0]; exact Bool.false_ne_true)) ?_; wp_walk using wpAny_loadPart' hl)
      | (refine wpAny_ite_false (decide_eq_false (by rw [c1]; exact Bool.false_ne_true)) ?_; wp_walk using wpAny_loadPart' hl)
      | (refine wpAny_ite_true (decide_eq_true (by rw [c2])) ?_; wp_walk using wpAny_loadPart' hl))
    exact ⟨_, rfl, h⟩
def rRepA (K : PySem.W.Frag) : R2 := fun x y H Q => ∃ (l : Addr) (k : Int) (xs : List V), x = .ref l ∧ y = .int k ∧ SqT K H l xs ∧ 0 ≤ k ∧ k ≤ 1000 ∧ xs.length ≤ 1000 ∧ ((xs = [] ∨ k = 1) → Q (.ref l) H) ∧
  (xs ≠ [] → k = 0 → ∀ p, H p = none → Q (.ref p) (upd H p (.tup []))) ∧ (xs ≠ [] → 2 ≤ k → ∀ p, H p = none → Q (.ref p) (upd H p (.tup (List.replicate k.toNat xs).flatten)))
theorem op_repA {X : Cx} : OpR X (binaryOp .Mult) (rRepA X.K) := by
  intro pins s σ H x y v u Q I rx ry h
  obtain ⟨l, k, xs, ex, ey, hT, h0, h1, hz, q1, q0, q2⟩ := h
  by_cases hb : xs ≠ [] ∧ 2 ≤ k
  · exact op_repT pins s σ H x y v u Q I rx ry ⟨l, k, xs, ex, ey, hT, hb.1, hb.2, h1, hz, q2 hb.1 hb.2⟩
  subst ex ey
  cases rx
  obtain ⟨t, rfl⟩ := ry
  obtain ⟨its, r, ⟨⟨cls, dd, data, sl⟩, ho, hc, n, hd⟩, hs⟩ := I.tuple hT
  simp only at hc hd
  subst hc hd
  have hle : its.length = xs.length := r.length.symm
  have hi : its.toArray.isEmpty = xs.isEmpty := by
    cases its <;> cases xs <;> simp_all
  have c0 : (decide (k < -(2 ^ 63)) || decide (k ≥ 2 ^ 63)) = false := by
    rw [decide_eq_false (by omega), decide_eq_false (by omega)] <;> rfl
  by_cases e1 : xs = [] ∨ k = 1
  · have c1 : (its.toArray.isEmpty || k == 1) = true := by
      rw [hi]
      rcases e1 with e | e
      · rw [e]; rfl
      · rw [e]; simp
    refine wpAny_binaryOp_repeat_ref (T := "tuple") (U := "int") (by decide) ⟨_, ho, rfl⟩ (fun s' => typeIs_int s' k t) noFill_tuple_mul F.fills_int_mul F.slot_int_rmul repeat_tuple F.slot_int_index.lookup
      (call_meets F.slot_int_rmul (typeIs_int s k t) F.entry_int_rmul (F.args_int_rmul_2 _ _) (int_rmul_tuple k t l its.toArray n dd sl)
        ⟨ho, rfl, ⟨_, ho, rfl⟩, call_meets F.slot_tuple_mul ⟨_, ho, rfl⟩ F.entry_tuple_mul (F.args_tuple_mul_2 _ _) (tuple_mulS l its.toArray n dd sl k t c0 c1) ⟨ho, ?_⟩⟩)
    exact ⟨.ref l, H, I, rfl, q1 e1⟩
  · have hx : xs ≠ [] := fun e => e1 (.inl e)
    have k0 : k = 0 := by
      have : ¬ 2 ≤ k := fun z => hb ⟨hx, z⟩
      have : k ≠ 1 := fun z => e1 (.inr z)
      omega
    have c1 : (its.toArray.isEmpty || k == 1) = false := by
      rw [hi]
      have : xs.isEmpty = false := by cases xs <;> simp_all
      rw [this, k0]; rfl
    have c2 : (decide (k ≤ 0) || its.toArray.isEmpty) = true := by
      rw [decide_eq_true (by omega), Bool.true_or]
    refine wpAny_binaryOp_repeat_ref (T := "tuple") (U := "int") (by decide) ⟨_, ho, rfl⟩ (fun s' => typeIs_int s' k t) noFill_tuple_mul F.fills_int_mul F.slot_int_rmul repeat_tuple F.slot_int_index.lookup
      (call_meets F.slot_int_rmul (typeIs_int s k t) F.entry_int_rmul (F.args_int_rmul_2 _ _) (int_rmul_tuple k t l its.toArray n dd sl)
        ⟨ho, rfl, ⟨_, ho, rfl⟩, call_meets F.slot_tuple_mul ⟨_, ho, rfl⟩ F.entry_tuple_mul (F.args_tuple_mul_2 _ _) (tuple_mul0 l its.toArray n dd sl k t c0 c1 c2) ⟨ho, ?_⟩⟩)
    refine ⟨.ref s.heap.objs.size, _, I.laid (t' := s.toks) (o := .tup []) (fun b ob q => Heap.get?_push_of_some _ q) (Nat.le_refl _) ?_, rfl, q0 hx k0 _ (I.hok.fresh (Nat.le_refl _))⟩
    exact ⟨Nat.zero_le _, [], .nil, IsTup.new _ _⟩
/-- the rules of *: ints, tuples, lists -/
def rMulA (K : PySem.W.Frag) : R2 := fun x y H Q => (rI CMul (fun i j => .int (i * j)) x y H Q ∨ rI CMulW (fun i j => .int (i * j)) x y H Q) ∨ (rRepA K x y H Q ∨ rRep x y H Q)
theorem op_mulA {X : Cx} : OpR X (binaryOp .Mult) (rMulA X.K) := (op_mul.or op_mulW).or (op_repA.or op_rep)
section
variable {K : PySem.W.Frag}
theorem DsR.rep {m : List Addr} {H : Hp} {ds : List D} {vs : List V} (h : DsR K m H ds vs) : ∀ n : Nat, DsR K m H (List.replicate n ds).flatten (List.replicate n vs).flatten
  | 0 => .nil
  | n + 1 => by
    rw [List.replicate_succ, List.replicate_succ, List.flatten_cons, List.flatten_cons]
    exact h.append (DsR.rep h n)
theorem rep_len {α : Type} (xs : List α) (n : Nat) : (List.replicate n xs).flatten.length = xs.length * n := by
  simp [Nat.mul_comm]
theorem o_mul : Op2 K opMul (rMulA K) := by
  intro C W m H μ x y v1 v2 Q R T1 T2 P
  unfold opMul at P
  split at P
  · rename_i i j
    by_cases hm : mulOk i j = true
    · rw [if_pos hm] at P
      have fin : Q (.int (i * j)) H := Post.ok R P int_TR
      unfold mulOk at hm
      rw [Bool.or_eq_true, Bool.or_eq_true] at hm
      rcases hm with (hm | hm) | hm
      · have := of_decide_eq_true hm
        exact .inl (.inl ⟨i, j, int_TC T1, int_TC T2, .inl (by omega), fin⟩)
      · have := of_decide_eq_true hm
        exact .inl (.inl ⟨i, j, int_TC T1, int_TC T2, .inr (by omega), fin⟩)
      · exact .inl (.inr ⟨i, j, int_TC T1, int_TC T2, (of_decide_eq_true hm : i.natAbs.log2 + j.natAbs.log2 < 1000000), fin⟩)
    · rw [if_neg hm] at P; exact P.elim
  · rename_i xs k
    by_cases hk : 0 ≤ k ∧ k ≤ 1000 ∧ xs.length ≤ 1000
    · rw [if_pos hk] at P
      obtain ⟨a, vs, rfl, h1, h2⟩ := tup_TC T1
      have hl := h2.length
      refine .inr (.inl ⟨a, k, vs, rfl, int_TC T2, h1, hk.1, hk.2.1, by omega, fun e => ?_, fun _ e p hp => ?_, fun _ e p hp => new_tup R (h2.rep _) P hp⟩)
      · have ex : (List.replicate k.toNat xs).flatten = xs := by
          rcases e with e | e
          · rw [h2.nil_of.mp e]; simp
          · rw [e]; simp
        rw [ex] at P
        exact Post.ok R P ⟨T1, Frs.val⟩
      · subst e
        exact new_tup R DsR.nil P hp
    · rw [if_neg hk] at P; exact P.elim
  · rename_i k _ _
    split at P
    · rename_i xs hx
      by_cases hk : 0 ≤ k ∧ k ≤ 100000
      · rw [if_pos hk] at P
        obtain ⟨hz, P⟩ := cap_post P
        obtain ⟨a, vs, rfl, h1, h2⟩ := mq_TC R T1 hx
        exact .inr (.inr ⟨a, k, vs, rfl, int_TC T2, h1, by omega, by omega, by rw [← h2.length]; exact big_line hz, fun p hp => new_lst R (h2.rep _) P hp⟩)
      · rw [if_neg hk] at P; exact P.elim
    · exact P.elim
  · exact P.elim
end
end Mi
end
section
set_option Elab.async false
set_option linter.all false
set_option maxRecDepth 100000
set_option maxHeartbeats 1000000
/-! MiF: equality, slices, append, calls. -/
namespace Mi
open PySem PySem.Spec PyProof.Rows L2
/-! ### data -/
theorem pys_map : ∀ xs : List D, D.pys xs = xs.map D.py
  | [] => by unfold D.pys; rfl
  | x :: xs => by unfold D.pys; rw [pys_map xs]; rfl
theorem depthAll_le {n : Nat} : ∀ {ds : List PyData}, (∀ d ∈ ds, d.depth ≤ n) → PyData.depthAll ds ≤ n
  | [], _ => by unfold PyData.depthAll; exact Nat.zero_le _
  | d :: ds, h => by
    unfold PyData.depthAll
    have h1 := h d (List.mem_cons_self)
    have h2 := depthAll_le (ds := ds) fun e he => h e (List.mem_cons_of_mem _ he)
    omega
theorem canLayAll_of {ds : List PyData} (h : ∀ d ∈ ds, d.canLay0 = true) : PyData.canLayAll0 ds = true := by
  induction ds with
  | nil => unfold PyData.canLayAll0; rfl
  | cons d ds ih =>
    unfold PyData.canLayAll0
    rw [h d List.mem_cons_self, ih fun e he => h e (List.mem_cons_of_mem _ he)]; rfl
theorem dep_ok : ∀ {n : Nat} {d : D}, d.dep n = true → d.py.canLay0 = true ∧ d.py.depth ≤ n
  | n, .non, _ => by unfold D.py PyData.canLay0 PyData.depth; simp
  | n, .bl _, _ => by unfold D.py PyData.canLay0 PyData.depth; simp
  | n, .int _, _ => by unfold D.py PyData.canLay0 PyData.depth; simp
  | n, .str s, h => by
    unfold D.dep at h
    unfold D.py PyData.canLay0 PyData.depth
    exact ⟨h, Nat.zero_le _⟩
  | n, .ref _, h => by unfold D.dep at h; cases h
  | 0, .tup _, h => by unfold D.dep at h; cases h
  | 0, .fl _, h => by unfold D.dep at h; cases h
  | n + 1, .tup xs, h => by
    unfold D.dep at h
    rw [List.all_eq_true] at h
    unfold D.py
    rw [pys_map]
    unfold PyData.canLay0 PyData.depth
    refine ⟨canLayAll_of fun d hd => ?_, Nat.succ_le_succ (depthAll_le fun d hd => ?_)⟩
    · obtain ⟨e, he, rfl⟩ := List.mem_map.mp hd
      exact (dep_ok (h e he)).1
    · obtain ⟨e, he, rfl⟩ := List.mem_map.mp hd
      exact (dep_ok (h e he)).2
  | n + 1, .fl xs, h => by
    unfold D.dep at h
    rw [List.all_eq_true] at h
    unfold D.py
    rw [pys_map]
    unfold PyData.canLay0 PyData.depth
    refine ⟨canLayAll_of fun d hd => ?_, Nat.succ_le_succ (depthAll_le fun d hd => ?_)⟩
    · obtain ⟨e, he, rfl⟩ := List.mem_map.mp hd
      exact (dep_ok (h e he)).1
    · obtain ⟨e, he, rfl⟩ := List.mem_map.mp hd
      exact (dep_ok (h e he)).2
theorem all2_eqv {n : Nat} (ih : ∀ {x y : D}, x.dep n = true → y.dep n = true → D.eqv n x y = PyData.eqv x.py y.py) : ∀ {xs ys : List D}, xs.all (D.dep n) = true → ys.all (D.dep n) = true → all2 (D.eqv n) xs ys = PyData.eqvAll (D.pys xs) (D.pys ys)
  | [], [], _, _ => by unfold all2 D.pys PyData.eqvAll; rfl
  | [], y :: ys, _, _ => by unfold all2 D.pys PyData.eqvAll; rfl
  | x :: xs, [], _, _ => by unfold all2 D.pys PyData.eqvAll; rfl
  | x :: xs, y :: ys, h, g => by
    rw [List.all_cons, Bool.and_eq_true] at h g
    unfold all2 D.pys PyData.eqvAll
    rw [ih h.1 g.1, all2_eqv ih h.2 g.2]
theorem eqv_ok : ∀ {n : Nat} {x y : D}, x.dep n = true → y.dep n = true → D.eqv n x y = PyData.eqv x.py y.py := by
  intro n
  induction n with
  | zero =>
    intro x y h g
    cases x <;> cases y <;> first
      | (unfold D.dep at h; cases h; done)
      | (unfold D.dep at g; cases g; done)
      | (unfold D.eqv D.py PyData.eqv; first | rfl | (simp [Bool.beq_eq_decide_eq]; done) | (rw [Bool.beq_eq_decide_eq]; done))
  | succ n ih =>
    intro x y h g
    cases x <;> cases y <;> first
      | (unfold D.dep at h; cases h; done)
      | (unfold D.dep at g; cases g; done)
      | (unfold D.dep at h g; unfold D.eqv D.py PyData.eqv; exact all2_eqv (fun a b => ih a b) h g)
      | (unfold D.eqv D.py PyData.eqv; first | rfl | (simp [Bool.beq_eq_decide_eq]; done) | (rw [Bool.beq_eq_decide_eq]; done))
section
variable {K : PySem.W.Frag} {m : List Addr} {H : Hp} {μ : Hq}
theorem Dp_of (R : Rp K m H μ) : ∀ {n : Nat} {d : D} {v : V}, d.dep n = true → DR K m H d v → Dp K H v d.py
  | n, .non, v, _, h => by unfold DR at h; subst h; unfold D.py; exact .non
  | n, .bl _, v, _, h => by unfold DR at h; subst h; unfold D.py; exact .bl _
  | n, .int _, v, _, h => by unfold DR at h; subst h; unfold D.py; exact .int _
  | n, .str s, v, _, h => by unfold DR at h; subst h; unfold D.py; exact .str _
  | n, .ref _, v, h, _ => by unfold D.dep at h; cases h
  | 0, .tup _, v, h, _ => by unfold D.dep at h; cases h
  | 0, .fl _, v, h, _ => by unfold D.dep at h; cases h
  | n + 1, .tup xs, v, h, g => by
    unfold D.dep at h
    rw [List.all_eq_true] at h
    unfold DR at g
    obtain ⟨a, vs, rfl, h1, h2⟩ := g
    unfold D.py
    refine .tup h1 ?_
    have key : ∀ {ds : List D} {ws : List V}, (∀ d ∈ ds, d.dep n = true) → DsR K m H ds ws → DpAll K H ws (D.pys ds) := by
      intro ds
      induction ds with
      | nil => intro ws _ q; rw [q.nil_iff]; unfold D.pys; exact .nil
      | cons d ds ih2 =>
        intro ws hd q
        obtain ⟨v, t, rfl, q1, q2⟩ := q.cons_iff
        unfold D.pys
        exact .cons (Dp_of R (hd d List.mem_cons_self) q1) (ih2 (fun e he => hd e (List.mem_cons_of_mem _ he)) q2)
    exact key h h2
  | n + 1, .fl xs, v, h, g => by
    unfold D.dep at h
    rw [List.all_eq_true] at h
    unfold DR at g
    obtain ⟨a, vs, rfl, h1, h2⟩ := g
    unfold D.py
    refine .lst h1.now ?_
    have key : ∀ {ds : List D} {ws : List V}, (∀ d ∈ ds, d.dep n = true) → DsR K m H ds ws → DpAll K H ws (D.pys ds) := by
      intro ds
      induction ds with
      | nil => intro ws _ q; rw [q.nil_iff]; unfold D.pys; exact .nil
      | cons d ds ih2 =>
        intro ws hd q
        obtain ⟨v, t, rfl, q1, q2⟩ := q.cons_iff
        unfold D.pys
        exact .cons (Dp_of R (hd d List.mem_cons_self) q1) (ih2 (fun e he => hd e (List.mem_cons_of_mem _ he)) q2)
    exact key h h2
theorem snaps_DpAll (R : Rp K m H μ) {n : Nat} (ih : ∀ {d e : D} {v : V}, snap μ n d = some e → DR K m H d v → Dp K H v e.py ∧ e.dep n = true) :
    ∀ {ds es : List D} {vs : List V}, optAll (snap μ n) ds = some es → DsR K m H ds vs → DpAll K H vs (D.pys es) ∧ es.all (D.dep n) = true
  | [], es, vs, e, h => by
    unfold optAll at e; cases e; rw [h.nil_iff]; unfold D.pys; exact ⟨.nil, rfl⟩
  | d :: ds, es, vs, e, h => by
    obtain ⟨v, t, rfl, h1, h2⟩ := h.cons_iff
    unfold optAll at e
    split at e
    · cases e
    · rename_i y hy
      split at e
      · cases e
      · rename_i ys hys
        cases e
        obtain ⟨q1, q2⟩ := ih hy h1
        obtain ⟨q3, q4⟩ := snaps_DpAll R ih hys h2
        unfold D.pys
        exact ⟨.cons q1 q3, by rw [List.all_cons, q2, q4]; rfl⟩
theorem snap_Dp (R : Rp K m H μ) : ∀ {n : Nat} {d e : D} {v : V}, snap μ n d = some e → DR K m H d v → Dp K H v e.py ∧ e.dep n = true
  | n, .non, e, v, h, g => by unfold snap at h; cases h; unfold DR at g; subst g; unfold D.py D.dep; exact ⟨.non, rfl⟩
  | n, .bl _, e, v, h, g => by unfold snap at h; cases h; unfold DR at g; subst g; unfold D.py D.dep; exact ⟨.bl _, rfl⟩
  | n, .int _, e, v, h, g => by unfold snap at h; cases h; unfold DR at g; subst g; unfold D.py D.dep; exact ⟨.int _, rfl⟩
  | n, .str s, e, v, h, g => by
    unfold snap at h
    split at h
    · rename_i hs
      cases h; unfold DR at g; subst g; unfold D.py D.dep; exact ⟨.str _, hs⟩
    · cases h
  | 0, .tup _, _, _, h, _ => by unfold snap at h; cases h
  | 0, .fl _, _, _, h, _ => by unfold snap at h; cases h
  | 0, .ref _, _, _, h, _ => by unfold snap at h; cases h
  | n + 1, .tup xs, e, v, h, g => by
    unfold snap at h
    obtain ⟨es, he, rfl⟩ := Option.map_eq_some_iff.mp h
    unfold DR at g
    obtain ⟨a, vs, rfl, h1, h2⟩ := g
    obtain ⟨q1, q2⟩ := snaps_DpAll R (fun a b => snap_Dp R a b) he h2
    unfold D.py D.dep
    exact ⟨.tup h1 q1, q2⟩
  | n + 1, .fl xs, e, v, h, g => by
    unfold snap at h
    obtain ⟨es, he, rfl⟩ := Option.map_eq_some_iff.mp h
    unfold DR at g
    obtain ⟨a, vs, rfl, h1, h2⟩ := g
    obtain ⟨q1, q2⟩ := snaps_DpAll R (fun a b => snap_Dp R a b) he h2
    unfold D.py D.dep
    exact ⟨.lst h1.now q1, q2⟩
  | n + 1, .ref r, e, v, h, g => by
    unfold snap at h
    dsimp only at h
    split at h
    · cases h
    · rename_i xs hx
      obtain ⟨es, he, rfl⟩ := Option.map_eq_some_iff.mp h
      obtain ⟨a, vs, rfl, h1, h2⟩ := lq_TC (μ := μ) (t := .val (.ref r)) R g (by unfold lq; exact hx)
      obtain ⟨q1, q2⟩ := snaps_DpAll R (fun a b => snap_Dp R a b) he h2
      unfold D.py D.dep
      exact ⟨.lst h1 q1, q2⟩
theorem dat_Dp (R : Rp K m H μ) {t : Tv} {d : D} {v : V} (h : TC K m H t v) (e : dat μ t = some d) : Dp K H v d.py ∧ d.dep depth = true := by
  unfold dat at e
  split at e
  · exact snap_Dp R e h
  · split at e
    · rename_i hd
      cases e
      exact ⟨Dp_of R hd h, hd⟩
    · cases e
  · obtain ⟨a, vs, rfl, n, e2, e3⟩ := h
    unfold depth snap at e
    obtain ⟨es, he, rfl⟩ := Option.map_eq_some_iff.mp e
    obtain ⟨q1, q2⟩ := snaps_DpAll R (fun a b => snap_Dp R a b) he e3
    unfold D.py depth D.dep
    exact ⟨.lst (.of e2) q1, q2⟩
  · cases e
theorem shaped_of {d : D} (h : d.dep depth = true) : SeqAt.shaped d.py = true := by
  obtain ⟨h1, h2⟩ := dep_ok h
  unfold SeqAt.shaped
  rw [h1, Bool.true_and]
  exact decide_eq_true (Nat.le_trans h2 (by decide))
def rEqA (K : PySem.W.Frag) : R2 := fun x y H Q => rEq x y H Q ∨ rEqD K x y H Q
def rNeA (K : PySem.W.Frag) : R2 := fun x y H Q => rNe x y H Q ∨ rNeD K x y H Q
theorem op_eqA {X : Cx} (hu : X.A.units + 64 < cLine) : OpR X (compareOp .Eq) (rEqA X.K) := op_eq.or (op_eqD hu)
theorem op_neA {X : Cx} (hu : X.A.units + 64 < cLine) : OpR X (compareOp .NotEq) (rNeA X.K) := op_ne.or (op_neD hu)
theorem dec_V {i j : Int} : decide (V.int i = V.int j) = decide (i = j) := by
  by_cases e : i = j
  · subst e; simp
  · rw [decide_eq_false e, decide_eq_false fun q => e (V.int.inj q)]
theorem dec_Vs {i j : Str} : decide (V.str i = V.str j) = decide (i = j) := by
  by_cases e : i = j
  · subst e; simp
  · rw [decide_eq_false e, decide_eq_false fun q => e (V.str.inj q)]
theorem o_eq : Op2 K opEq (rEqA K) := by
  intro C W m H μ x y v1 v2 Q R T1 T2 P
  unfold opEq at P
  split at P
  · rename_i b hb
    have fin := Post.ok R P bl_TR
    unfold eqTv at hb
    split at hb
    · cases hb
      exact .inl ⟨by rw [int_TC T1, int_TC T2]; rfl, by rw [int_TC T1, int_TC T2, dec_V]; exact fin⟩
    · cases hb
      exact .inl ⟨by rw [str_TC T1, str_TC T2]; rfl, by rw [str_TC T1, str_TC T2, dec_Vs]; exact fin⟩
    · split at hb
      · rename_i a c ha hc
        cases hb
        obtain ⟨p1, p2⟩ := dat_Dp R T1 ha
        obtain ⟨q1, q2⟩ := dat_Dp R T2 hc
        exact .inr ⟨_, _, p1, q1, shaped_of p2, shaped_of q2, by rw [← eqv_ok p2 q2]; exact fin⟩
      · cases hb
  · exact P.elim
theorem o_ne : Op2 K opNe (rNeA K) := by
  intro C W m H μ x y v1 v2 Q R T1 T2 P
  unfold opNe at P
  split at P
  · rename_i b hb
    have fin := Post.ok R P bl_TR
    unfold eqTv at hb
    split at hb
    · cases hb
      exact .inl ⟨by rw [int_TC T1, int_TC T2]; rfl, by rw [int_TC T1, int_TC T2, dec_V]; exact fin⟩
    · cases hb
      exact .inl ⟨by rw [str_TC T1, str_TC T2]; rfl, by rw [str_TC T1, str_TC T2, dec_Vs]; exact fin⟩
    · split at hb
      · rename_i a c ha hc
        cases hb
        obtain ⟨p1, p2⟩ := dat_Dp R T1 ha
        obtain ⟨q1, q2⟩ := dat_Dp R T2 hc
        exact .inr ⟨_, _, p1, q1, shaped_of p2, shaped_of q2, by rw [← eqv_ok p2 q2]; exact fin⟩
      · cases hb
  · exact P.elim
end
end Mi
end
section
set_option Elab.async false
set_option linter.all false
set_option maxRecDepth 100000
set_option maxHeartbeats 1000000
/-! MiG: slices, append, calls, targets, statements. -/
namespace Mi
open PySem PySem.Spec PyProof.Rows L2
section
variable (K : PySem.W.Frag) (C : CT) (W : WX)
def tP (f : PF) : TO := fun σ H Q => ∃ m ρ μ, Rp K m H μ ∧ Re K m σ H ρ ∧ Post (fun _ _ _ a b => a = b) K C (fun c d H => W c d σ H) m H μ (f ρ μ) Q
/-- behind a statement -/
def PostS (m : List Addr) (H : Hp) (μ : Hq) (r : RS) (D : Ends) : Prop := match r with
  | .ok .nx ρ' μ' => ∀ m' H' σ', Ext m H μ m' H' μ' → Rp K m' H' μ' → Re K m' σ' H' ρ' → D.nx σ' H'
  | .ok .bk ρ' μ' => ∀ m' H' σ', Ext m H μ m' H' μ' → Rp K m' H' μ' → Re K m' σ' H' ρ' → D.bk σ' H'
  | .ok .ct ρ' μ' => ∀ m' H' σ', Ext m H μ m' H' μ' → Rp K m' H' μ' → Re K m' σ' H' ρ' → D.ct σ' H'
  | .ok (.rt t) ρ' μ' => ∀ m' H' v, Ext m H μ m' H' μ' → Rp K m' H' μ' → TR K H m' H' t v → D.rt v H'
  | .exc c p ρ' μ' => ∀ m' H' σ' dx, Ext m H μ m' H' μ' → Rp K m' H' μ' → Re K m' σ' H' ρ' → PR K m' H' (C c).2 p dx → W (C c).1 dx σ' H'
  | .fail => False
def tS (f : SF) : TS := fun D σ H => ∃ m ρ μ, Rp K m H μ ∧ Re K m σ H ρ ∧ PostS K C W m H μ (f ρ μ) D
end
section
variable {X : Cx} {C : CT} {W : WX} {a b c e : Expr} {fa fb fe : EF} {fc fr : TF} {es rest : List Expr} {as : AF} {pos : Pos} {m m1 : List Addr} {H H1 : Hp} {μ μ1 : Hq} {K : PySem.W.Frag}
theorem PS.imp {st : Stmt} {t t' : TS} (h : PS X st t) (i : ∀ D σ H, t' D σ H → t D σ H) : PS X st t' := ⟨fun p s σ H D I q => h.run p s σ H D I (i _ _ _ q)⟩
theorem PSs.imp {st : List Stmt} {t t' : TS} (h : PSs X st t) (i : ∀ D σ H, t' D σ H → t D σ H) : PSs X st t' := ⟨fun p s σ H D I q => h.run p s σ H D I (i _ _ _ q)⟩
theorem PostS.step {r : RS} {D : Ends} (E : Ext m H μ m1 H1 μ1) (R1 : Rp K m1 H1 μ1) (h : PostS K C W m H μ r D) : PostS K C W m1 H1 μ1 r D := by
  cases r with
  | ok f ρ' μ' => cases f with
    | nx => exact fun m' H' σ' F R' q => h m' H' σ' (E.trans F) R' q
    | bk => exact fun m' H' σ' F R' q => h m' H' σ' (E.trans F) R' q
    | ct => exact fun m' H' σ' F R' q => h m' H' σ' (E.trans F) R' q
    | rt t => exact fun m' H' v F R' q => h m' H' v (E.trans F) R' ⟨q.1, Frs.back E R1 q.2⟩
  | exc c p ρ' μ' => exact fun m' H' σ' dx F R' q => h m' H' σ' dx (E.trans F) R' q
  | fail => exact h
/-- from an expression's result to a statement's -/
theorem Post.toS {α β : Type} {rel : Hp → List Addr → Hp → α → β → Prop} {r : R α} {f : α → Hq → RS} {D : Ends} {σ : L2.St} {ρ : Ev} (R0 : Rp K m H μ) (E0 : Re K m σ H ρ) (h : PostS K C W m H μ (r.toS ρ f) D) :
    Post rel K C (fun c d H => W c d σ H) m H μ r (fun v H1 => ∃ m1 μ1 a, Ext m H μ m1 H1 μ1 ∧ Rp K m1 H1 μ1 ∧ rel H m1 H1 a v ∧ PostS K C W m H μ (f a μ1) D ∧ PostS K C W m1 H1 μ1 (f a μ1) D) := by
  cases r with
  | ok t μ' => exact fun m' H' v E R q => ⟨m', μ', t, E, R, q, h, PostS.step E R h⟩
  | exc c p μ' => exact fun m' H' dx E R q => h m' H' σ dx E R (E0.ext E R0) q
  | fail => exact h

/-! ### slices -/
theorem pv_none : PO X none (tP X.K C W pN) := by
  refine ⟨fun pins s σ H Q I h => ?_⟩
  obtain ⟨m, ρ, μ, R0, E0, P⟩ := h
  exact po_none.run pins s σ H Q I (Post.ok R0 P rfl)
theorem pv_some (h : PE X e (tE X.K C W fe)) : PO X (some e) (tP X.K C W (pS fe)) := by
  refine ⟨fun pins s σ H Q I hq => (po_some h).run pins s σ H Q I ?_⟩
  obtain ⟨m, ρ, μ, R0, E0, P⟩ := hq
  refine ⟨m, ρ, μ, R0, E0, (Post.bind (fun _ _ _ _ _ _ _ _ _ _ _ _ h => h) P).mono fun v H1 ⟨m1, μ1, t, E, R1, T1, P0, P1, ex⟩ => ?_⟩
  split at P1
  · rename_i i
    exact ⟨i, int_TC T1.1, Post.ok R1 P1 rfl⟩
  · exact P1.elim
theorem cut_DsR {ds : List D} {vs : List V} (lo hi : Option Int) (h : DsR K m H ds vs) : DsR K m H (cutq ds lo hi) (cutV vs lo hi) := by
  unfold cutq cutV
  have hl := h.length
  have e : ∀ n d o, ptI n d o = HT.sIx n d o := fun n d o => by cases o <;> rfl
  rw [e, e, hl]
  exact (h.drop _).take _
def rSlAll (K : PySem.W.Frag) : V → Option Int → Option Int → Hp → VK → Prop := fun x lo hi H Q => rSlL K x lo hi H Q ∨ rSlA K x lo hi H Q
theorem sl_ok {l' u' : Option Int} {t : Tv} {v : V} {Wx : WXe} {Q : VK} (R3 : Rp K m H μ) (T4 : TC K m H t v) (P3 : Post (TR K) K C Wx m H μ (slV l' u' t μ) Q) : rSlAll K v l' u' H Q := by
  unfold slV at P3
  split at P3
  · rename_i xs
    obtain ⟨p, vs, rfl, h1, h2⟩ := tup_TC T4
    refine .inr ⟨p, vs, rfl, h1, fun hw => ?_, fun _ q hq => new_tup R3 (cut_DsR _ _ h2) P3 hq⟩
    have hl := h2.length
    have ex : cutq xs l' u' = xs := by
      unfold cutq
      have e : ∀ n d o, ptI n d o = HT.sIx n d o := fun n d o => by cases o <;> rfl
      rw [e, e, hl, hw.1, hw.2]
      rw [List.drop_zero, Nat.sub_zero, ← hl, List.take_length]
    rw [ex] at P3
    exact Post.ok R3 P3 ⟨T4, Frs.val⟩
  · split at P3
    · rename_i xs hx
      obtain ⟨p, vs, rfl, h1, h2⟩ := lq_TC R3 T4 hx
      exact .inl ⟨p, vs, rfl, h1, fun q hq => new_lst R3 (cut_DsR _ _ h2) P3 hq⟩
    · exact P3.elim
theorem ev_sl {lo hi : Option Expr} {fl fh : PF} {p2 : Pos} (he : PE X e (tE X.K C W fe)) (hl : PO X lo (tP X.K C W fl)) (hh : PO X hi (tP X.K C W fh)) : PE X (.Subscript e (.Slice lo hi none p2) pos) (tE X.K C W (eSl fe fl fh)) := by
  refine PE.imp (pe_slice (sl_list.or sl_tupA) he hl hh) fun σ H Q h => ?_
  obtain ⟨m, ρ, μ, R0, E0, P⟩ := h
  refine ⟨m, ρ, μ, R0, E0, (Post.bind relTR P).mono fun v H1 ⟨m1, μ1, t, E, R1, T1, P0, P1, ex⟩ => ?_⟩
  refine ⟨m1, ρ, μ1, R1, E0.ext E R0, (Post.bind relTR P1).mono fun l H2 ⟨m2, μ2, l', F, R2', T2, ex1, P2, ex2⟩ => ?_⟩
  subst T2
  refine ⟨m2, ρ, μ2, R2', (E0.ext E R0).ext F R1, (Post.bind relTR P2).mono fun u H3 ⟨m3, μ3, u', G, R3, T3, ex3, P3, ex4⟩ => ?_⟩
  subst T3
  exact sl_ok R3 ((T1.1.ext F R1).ext G R2') P3

/-! ### a list of the small heap is written -/
theorem SqT.write {p q : Addr} {o : HO} {xs vs : List V} (hp : H p = some (.lst xs)) (h : SqT K H q vs) : SqT K (upd H p o) q vs := by
  rcases h with (h | ⟨u, h⟩) | h
  · exact .inl (.inl (by rw [upd_ne (ne_of h hp (by intro z; cases z))]; exact h))
  · exact .inl (.inr ⟨u, by rw [upd_ne (ne_of h hp (by intro z; cases z))]; exact h⟩)
  · exact .inr h
theorem FzL.write {p q : Addr} {o : HO} {xs vs : List V} (hp : H p = some (.lst xs)) (h : FzL K H q vs) : FzL K (upd H p o) q vs :=
  fun H2 k => h H2 fun b u w e => k b u w (by rw [upd_ne (ne_of e hp (by intro z; cases z))]; exact e)
theorem Rp.inj (R : Rp K m H μ) {r s : Nat} {p : Addr} (h1 : m[r]? = some p) (h2 : m[s]? = some p) : r = s := by
  obtain ⟨a1, e1⟩ := List.getElem?_eq_some_iff.mp h1
  obtain ⟨a2, e2⟩ := List.getElem?_eq_some_iff.mp h2
  exact (List.getElem_inj R.nd).mp (e1.trans e2.symm)
theorem write_ok {r : Nat} {p : Addr} {xs xs' : List D} {vs vs' : List V} (R : Rp K m H μ) (hr : m[r]? = some p) (hx : μ[r]? = some (.lst xs)) (hp : H p = some (.lst vs)) (h' : DsR K m H xs' vs') :
    Ext m H μ m (upd H p (.lst vs')) (μ.set r (.lst xs')) ∧ Rp K m (upd H p (.lst vs')) (μ.set r (.lst xs')) := by
  have hm : p ∈ m := List.mem_of_getElem? hr
  refine ⟨⟨⟨[], by simp⟩, fun q o e n => ?_, fun q hq n => absurd hq n, fun s q ys e1 e2 => ?_⟩, ⟨by simpa using R.len, R.nd, fun s q o e1 e2 => ?_⟩⟩
  · rw [upd_ne fun z => n (by rw [z]; exact hm)]; exact e
  · have hs : s ≠ r := fun z => by rw [z, hx] at e2; cases e2
    refine ⟨by rw [List.getElem?_set_ne (Ne.symm hs)]; exact e2, upd_ne fun z => hs (R.inj (by rw [e1, z]) hr)⟩
  · by_cases hs : r = s
    · subst hs
      rw [hr] at e1; cases e1
      have hl := (List.getElem?_eq_some_iff.mp hx).1
      rw [List.getElem?_set_self hl] at e2; cases e2
      exact ⟨vs', upd_same, h'.mono (fun _ _ e => e) (fun _ _ q => Mi.SqT.write hp q) (fun _ _ q => q.write hp)⟩
    · rw [List.getElem?_set_ne hs] at e2
      exact OR.mono (fun _ _ e => e) (fun _ _ q => Mi.SqT.write hp q) (fun _ _ q => q.write hp) (upd_ne fun z => hs (R.inj hr (by rw [e1, z]))) (R.ob s q o e1 e2)
theorem ref_TC {r : Nat} {v : V} {xs : List D} (R : Rp K m H μ) (h : TC K m H (.val (.ref r)) v) (hx : μ[r]? = some (.lst xs)) : ∃ p vs, v = .ref p ∧ m[r]? = some p ∧ H p = some (.lst vs) ∧ DsR K m H xs vs := by
  have h : DR K m H (.ref r) v := h
  unfold DR at h
  obtain ⟨p, rfl, h1⟩ := h
  obtain ⟨vs, q1, q2⟩ := R.ob r p _ h1 hx
  exact ⟨p, vs, rfl, h1, q1, q2⟩
theorem ev_app {apos : Pos} (ho : PE X a (tE X.K C W fa)) (he : PE X e (tE X.K C W fe)) (hbase : attributeBase a "append" X.env (eval a X.env) = eval a X.env := by rfl)
    (hfew : ((backTo pos (starEach (e :: []) X.env)).all (fun x => !x.1) && (backToKw pos (keywordEach [] X.env)).all (fun x => x.1.isSome)
      && decide ((e :: ([] : List Expr)).length + ([] : List Keyword).length + (if ([] : List Keyword).isEmpty then 0 else 1) < 30)) = true := by rfl)
    (hline : (apos.endLine == pos.line) = true := by rfl) (hs : starEach (e :: []) X.env = (false, eval e X.env) :: starEach [] X.env := by rfl) (hplain : (backTo pos (starEach [] X.env)).any (·.1) = false := by rfl) :
    PE X (.Call (.Attribute a "append" apos) [e] [] pos) (tE X.K C W (eApp fa fe)) := by
  refine PE.imp (pe_bm PySem.F.plainAttrs_list PySem.F.slot_list_append PySem.F.type_list_append mt_append ho (pa_cons he pa_nil hs) hbase hfew hline hs hplain) fun σ H Q h => ?_
  obtain ⟨m, ρ, μ, R0, E0, P⟩ := h
  refine ⟨m, ρ, μ, R0, E0, (Post.bind relTR P).mono fun v H1 ⟨m1, μ1, t, E, R1, T1, P0, P1, ex⟩ => ?_⟩
  split at P1
  · rename_i r
    split at P1
    · rename_i xs0 hx0
      obtain ⟨p0, vs0, rfl, h1, h2⟩ := lq_TC (μ := μ1) (t := .val (.ref r)) R1 T1.1 (by unfold lq; exact hx0)
      refine ⟨.inl ⟨rfl, vs0, h1⟩, m1, ρ, μ1, R1, E0.ext E R0, (Post.bind relTR P1).mono fun w H2 ⟨m2, μ2, y, F, R2', T2, P20, P2, _⟩ => ?_⟩
      obtain ⟨u, F2, R3, D3⟩ := TC.mat F R2' T2
      have P3 := Post.step relTR F2 R3 P20
      split at P3
      · rename_i xs hx
        obtain ⟨hz, P3⟩ := cap_post P3
        have T1' : TC X.K (m2 ++ u) H2 (.val (.ref r)) (.ref p0) := T1.1.ext F2 R1
        obtain ⟨p, vs, ep, q1, q2, q3⟩ := ref_TC R3 T1' hx
        cases ep
        obtain ⟨G, R4⟩ := write_ok R3 q1 hx q2 (q3.append (.cons D3 .nil))
        exact ⟨p0, vs, w, rfl, rfl, q2, by rw [← q3.length]; exact big_line' hz, P3 _ _ _ G R4 non_TR⟩
      · exact P3.elim
    · exact P1.elim
  · exact P1.elim

/-! ### calls of defs -/
/-- a def's promise by a combinator -/
def spG (K : PySem.W.Frag) (C : CT) (g : List D → Hq → R Tv) : Sp := fun vs H Q E => ∃ m μ ds, Rp K m H μ ∧ DsR K m H ds vs ∧ Post (TR K) K C E m H μ (g ds μ) Q
/-- what is known of a def that is called -/
structure Fk (P : Program) (w : World) (K : PySem.W.Frag) (mg : Str → Option Value) (base : Heap) (C : CT) (n : Nat) (cf : CF) (i : Nat) (x : Str) : Prop where
  ex : ∃ (f : Addr) (fd : FuncData) (ps : List Str), FnOk P w K mg base (L2.CX P w) n f fd ps (spG K C (cf i)) ∧ mg x = some (.ref f) ∧ PySem.W.keepIn K (.ref f) = true ∧ Binds K fd ps []
theorem ev_call {n : Nat} {cf : CF} {x : Str} {p : Pos} (i : Nat) (F : Fk X.prog X.w X.K X.mg X.base C n cf i x) (tk : Takes X W) (hr : Room n X.A) (hg : Gl X x) (ha : PA X (e :: es) (tA X.K C W as))
    (hdb : (x == ("__debug__" : Str)) = false := by decide) (he : starEach (e :: es) X.env = (false, eval e X.env) :: starEach es X.env := by rfl) (hpl : (backTo pos (starEach es X.env)).any (·.1) = false := by rfl) :
    PE X (.Call (.Name x p) (e :: es) [] pos) (tE X.K C W (eCall cf i as)) := by
  obtain ⟨f, fd, ps, hF, hm, hk, hb⟩ := F.ex
  refine PE.imp (pe_callS hF hr hg hm hk hb (fun σ => passAt tk σ) ha hdb he hpl) fun σ H Q h => ?_
  obtain ⟨m, ρ, μ, R0, E0, P⟩ := h
  exact ⟨m, ρ, μ, R0, E0, (Post.bind relTR P).mono fun vs H1 ⟨m1, μ1, ds, E, R1, T1, P0, P1, ex⟩ => ⟨m1, μ1, ds, R1, T1, P1⟩⟩

/-! ### targets -/
theorem gv_name (i : Nat) {x : Str} (hN : X.N.Nodup) (hi : X.N[i]? = some x) (hx : Loc X.env.scope x) (hf : X.fn x = true ∨ X.env.scope.names.lookup x = some .local := by first | exact .inl rfl | exact .inr rfl | assumption) : PG X (.Name x pos) (tG X.K C W (gN i)) := by
  refine PG.imp (pg_name hN hi hx hf) fun v σ H Q h => ?_
  obtain ⟨m, ρ, μ, d, R0, E0, D0, P⟩ := h
  exact Post.ok R0 P (E0.set D0)
theorem gvs_nil : PGs X [] (tGs X.K C W gsNil) := by
  refine PGs.imp pgs_nil fun vs σ H Q h => ?_
  obtain ⟨m, ρ, μ, ds, R0, E0, D0, P⟩ := h
  unfold gsNil at P
  split at P
  · exact ⟨D0.nil_iff, Post.ok R0 P E0⟩
  · exact P.elim
theorem gvs_cons {g : GF} {gs : GsF} (h1 : PG X a (tG X.K C W g)) (h2 : PGs X es (tGs X.K C W gs)) (hs : (assignEach (a :: es) X.env).map (·.2) = assign a X.env :: (assignEach es X.env).map (·.2) := by rfl) : PGs X (a :: es) (tGs X.K C W (gsCons g gs)) := by
  refine PGs.imp (pgs_cons h1 h2 hs) fun vs σ H Q h => ?_
  obtain ⟨m, ρ, μ, ds, R0, E0, D0, P⟩ := h
  unfold gsCons at P
  split at P
  · rename_i d t
    obtain ⟨v, r, rfl, d1, d2⟩ := D0.cons_iff
    refine ⟨v, r, rfl, m, ρ, μ, d, R0, E0, d1, ?_⟩
    cases q : g d ρ μ with
    | ok ρ1 μ1 =>
      rw [q] at P
      intro m1 H1 σ1 E R1 T1
      refine ⟨m1, ρ1, μ1, t, R1, T1, d2.ext E R0, ?_⟩
      cases q2 : gs t ρ1 μ1 with
      | ok ρ2 μ2 =>
        have P : Post (relE X.K) X.K C (fun c d H => W c d σ H) m H μ (match gs t ρ1 μ1 with | R.ok ρ2 μ2 => R.ok ρ2 μ2 | _ => R.fail) Q := P
        rw [q2] at P
        exact fun m' H' v F R' q => P m' H' v (E.trans F) R' q
      | exc _ _ _ =>
        have P : Post (relE X.K) X.K C (fun c d H => W c d σ H) m H μ (match gs t ρ1 μ1 with | R.ok ρ2 μ2 => R.ok ρ2 μ2 | _ => R.fail) Q := P
        rw [q2] at P; exact P.elim
      | fail =>
        have P : Post (relE X.K) X.K C (fun c d H => W c d σ H) m H μ (match gs t ρ1 μ1 with | R.ok ρ2 μ2 => R.ok ρ2 μ2 | _ => R.fail) Q := P
        rw [q2] at P; exact P.elim
    | exc _ _ _ => rw [q] at P; exact P.elim
    | fail => rw [q] at P; exact P.elim
  · exact P.elim
/-- the number of targets -/
def GsL (gs : GsF) (n : Nat) : Prop := ∀ ds ρ μ, gs ds ρ μ ≠ .fail → ds.length = n
theorem gsl_nil : GsL gsNil 0 := by
  intro ds ρ μ h
  cases ds with
  | nil => rfl
  | cons d t => exact absurd rfl h
theorem gsl_cons {g : GF} {gs : GsF} {n : Nat} (hg : GsL gs n) : GsL (gsCons g gs) (n + 1) := by
  intro ds ρ μ h
  cases ds with
  | nil => exact absurd rfl h
  | cons d t =>
    refine congrArg Nat.succ ?_
    cases q : g d ρ μ with
    | ok ρ1 μ1 =>
      refine hg t ρ1 μ1 fun e => h ?_
      show (match g d ρ μ with | .ok ρ1 μ1 => (match gs t ρ1 μ1 with | .ok ρ2 μ2 => R.ok ρ2 μ2 | _ => .fail) | _ => .fail) = _
      rw [q]
      show (match gs t ρ1 μ1 with | .ok ρ2 μ2 => R.ok ρ2 μ2 | _ => .fail) = _
      rw [e]
    | exc _ _ _ =>
      refine absurd ?_ h
      show (match g d ρ μ with | .ok ρ1 μ1 => (match gs t ρ1 μ1 with | .ok ρ2 μ2 => R.ok ρ2 μ2 | _ => .fail) | _ => .fail) = _
      rw [q]
    | fail =>
      refine absurd ?_ h
      show (match g d ρ μ with | .ok ρ1 μ1 => (match gs t ρ1 μ1 with | .ok ρ2 μ2 => R.ok ρ2 μ2 | _ => .fail) | _ => .fail) = _
      rw [q]
theorem gv_tup {k : Nat} {gs : GsF} {n : Nat} (hc : X.calm = true) (h : PGs X es (tGs X.K C W gs)) (hl : GsL gs n) (hn : (assignEach es X.env).length = n := by rfl) (hst : (assignEach es X.env).findIdx? (·.1) = none := by rfl) :
    PG X (.Tuple es k pos) (tG X.K C W (gT gs)) := by
  refine PG.imp (pg_tup hc h hn hst) fun v σ H Q h => ?_
  obtain ⟨m, ρ, μ, d, R0, E0, D0, P⟩ := h
  unfold gT at P
  split at P
  · rename_i xs
    unfold DR at D0
    obtain ⟨p, vs, rfl, h1, h2⟩ := D0
    refine ⟨p, vs, rfl, h1, ?_, m, ρ, μ, xs, R0, E0, h2, P⟩
    rw [← h2.length]
    refine hl xs ρ μ fun e => ?_
    rw [e] at P; exact P
  · exact P.elim
/-! ### statements -/
variable {st : Stmt} {sts bod : List Stmt} {f g : SF}
theorem sv_nil : PSs X [] (tS X.K C W sNil) := PSs.imp pss_nil fun D σ H h => by
  obtain ⟨m, ρ, μ, R0, E0, P⟩ := h
  exact P m H σ .refl R0 E0
theorem sv_cons (h1 : PS X st (tS X.K C W f)) (h2 : PSs X sts (tS X.K C W g)) : PSs X (st :: sts) (tS X.K C W (sCons f g)) := PSs.imp (pss_cons h1 h2) fun D σ H h => by
  obtain ⟨m, ρ, μ, R0, E0, P⟩ := h
  refine ⟨m, ρ, μ, R0, E0, ?_⟩
  unfold sCons at P
  cases q : f ρ μ with
  | ok fl ρ1 μ1 =>
    rw [q] at P
    cases fl with
    | nx => exact fun m' H' σ' E R' E' => ⟨m', ρ1, μ1, R', E', PostS.step E R' P⟩
    | bk => exact P
    | ct => exact P
    | rt t => exact P
  | exc c p ρ1 μ1 => rw [q] at P; exact P
  | fail => rw [q] at P; exact P
theorem sv_pass : PS X (.Pass pos) (tS X.K C W sNil) := PS.imp ps_pass fun D σ H h => by
  obtain ⟨m, ρ, μ, R0, E0, P⟩ := h
  exact P m H σ .refl R0 E0
theorem sv_doc {x : Str} {j : Nat} {pos' : Pos} : PS X (.Expr (.Constant (.str x) j pos) pos') (tS X.K C W sNil) := PS.imp ps_doc fun D σ H h => by
  obtain ⟨m, ρ, μ, R0, E0, P⟩ := h
  exact P m H σ .refl R0 E0
theorem sv_break : PS X (.Break pos) (tS X.K C W sBrk) := PS.imp ps_break fun D σ H h => by
  obtain ⟨m, ρ, μ, R0, E0, P⟩ := h
  exact P m H σ .refl R0 E0
theorem sv_continue : PS X (.Continue pos) (tS X.K C W sCnt) := PS.imp ps_continue fun D σ H h => by
  obtain ⟨m, ρ, μ, R0, E0, P⟩ := h
  exact P m H σ .refl R0 E0
theorem sv_never : PS X st (tS X.K C W sNever) := PS.imp ps_never fun D σ H h => by
  obtain ⟨m, ρ, μ, R0, E0, P⟩ := h
  exact P
theorem sv_expr (he : PE X e (tE X.K C W fe)) (hs : swapsWith e none pos.line X.env = pure false := by rfl) : PS X (.Expr e pos) (tS X.K C W (sE fe)) := PS.imp (ps_expr he hs) fun D σ H h => by
  obtain ⟨m, ρ, μ, R0, E0, P⟩ := h
  refine ⟨m, ρ, μ, R0, E0, (Post.toS R0 E0 P).mono fun v H1 ⟨m1, μ1, t, E, R1, T1, P0, P1⟩ => ?_⟩
  exact P1 m1 H1 σ .refl R1 (E0.ext E R0)
theorem sv_ret (he : PE X e (tE X.K C W fe)) : PS X (.Return (some e) pos) (tS X.K C W (sRet fe)) := PS.imp (ps_ret he) fun D σ H h => by
  obtain ⟨m, ρ, μ, R0, E0, P⟩ := h
  refine ⟨m, ρ, μ, R0, E0, (Post.toS R0 E0 P).mono fun v H1 ⟨m1, μ1, t, E, R1, T1, P0, P1⟩ => ?_⟩
  exact P0 m1 H1 v E R1 T1
theorem sv_retN : PS X (.Return none pos) (tS X.K C W sRetN) := PS.imp ps_retN fun D σ H h => by
  obtain ⟨m, ρ, μ, R0, E0, P⟩ := h
  exact P m H .non .refl R0 non_TR
theorem sv_if {p q : List Stmt} (hc : PT X c (tT X.K C W fc)) (ha : PSs X p (tS X.K C W f)) (hb : PSs X q (tS X.K C W g)) : PS X (.If c p q pos) (tS X.K C W (sIf fc f g)) := PS.imp (ps_if hc ha hb) fun D σ H h => by
  obtain ⟨m, ρ, μ, R0, E0, P⟩ := h
  refine ⟨m, ρ, μ, R0, E0, (Post.toS R0 E0 P).mono fun v H1 ⟨m1, μ1, k, E, R1, T1, P0, P1⟩ => ?_⟩
  subst T1
  cases k with
  | true => exact iteT ⟨m1, ρ, μ1, R1, E0.ext E R0, P1⟩
  | false => exact iteF ⟨m1, ρ, μ1, R1, E0.ext E R0, P1⟩
theorem sv_asg {tg : Expr} {gg : GF} (he : PE X e (tE X.K C W fe)) (hg : PG X tg (tG X.K C W gg)) (hs : swapsWithSole [tg] e pos.line X.env = pure false := by rfl) (hw : swappedStores [tg] e X.env = pure none := by rfl)
    (h1 : (assignEach [tg] X.env).map (·.2) = [assign tg X.env] := by rfl) : PS X (.Assign [tg] e pos) (tS X.K C W (sAsg gg fe)) := PS.imp (ps_asg he hg hs hw h1) fun D σ H h => by
  obtain ⟨m, ρ, μ, R0, E0, P⟩ := h
  refine ⟨m, ρ, μ, R0, E0, (Post.toS R0 E0 P).mono fun v H1 ⟨m1, μ1, t, E, R1, T1, P0, P1⟩ => ?_⟩
  obtain ⟨u, E2, R2', D2⟩ := TC.mat E R1 T1
  have P2 := PostS.step E2 R2' P0
  have E3 := E0.ext E2 R0
  refine ⟨m1 ++ u, ρ, (mat t μ1).2, (mat t μ1).1, R2', E3, D2, (Post.toS R2' E3 P2).mono fun σ2 H2 ⟨m2, μ2, ρ2, F, R3, T3, _, P3⟩ => ?_⟩
  exact P3 m2 H2 σ2 .refl R3 T3
/-- name = e, stored by its own rule -/
theorem sv_set (i : Nat) {x : Str} {pos' : Pos} (hN : X.N.Nodup) (hi : X.N[i]? = some x) (hx : Loc X.env.scope x) (he : PE X e (tE X.K C W fe)) (hs : swapsWith e (some (.Name x pos')) pos.line X.env = pure false := by rfl)
    (hf : X.fn x = true ∨ X.env.scope.names.lookup x = some .local := by first | exact .inl rfl | exact .inr rfl | assumption) : PS X (.Assign [.Name x pos'] e pos) (tS X.K C W (sAsg (gN i) fe)) := PS.imp (ps_set hN hi hx he hs hf) fun D σ H h => by
  obtain ⟨m, ρ, μ, R0, E0, P⟩ := h
  refine ⟨m, ρ, μ, R0, E0, (Post.toS R0 E0 P).mono fun v H1 ⟨m1, μ1, t, E, R1, T1, P0, P1⟩ => ?_⟩
  obtain ⟨u, E2, R2', D2⟩ := TC.mat E R1 T1
  have P2 := PostS.step E2 R2' P0
  have E3 := E0.ext E2 R0
  exact P2 _ _ _ .refl R2' (E3.set D2)
theorem sv_par (i j : Nat) {x y : Str} {px py pt : Pos} {kt k2 pt2} (hc : X.calm = true) (hN : X.N.Nodup) (hi : X.N[i]? = some x) (hj : X.N[j]? = some y) (hij : i ≠ j)
    (hx : X.env.scope.names.lookup x = some .local) (hy : X.env.scope.names.lookup y = some .local) (ha : PA X [a, b] (tA X.K C W as))
    (hw : swappedStores [.Tuple [.Name x px, .Name y py] kt pt] (.Tuple [a, b] k2 pt2) X.env = pure (some [x, y]))
    (hs : swapsWithSole [.Tuple [.Name x px, .Name y py] kt pt] (.Tuple [a, b] k2 pt2) pos.line X.env = pure false := by rfl) :
    PS X (.Assign [.Tuple [.Name x px, .Name y py] kt pt] (.Tuple [a, b] k2 pt2) pos) (tS X.K C W (sPar i j as)) := PS.imp (ps_par hc hN hi hj hij hx hy ha hw hs) fun D σ H h => by
  obtain ⟨m, ρ, μ, R0, E0, P⟩ := h
  refine ⟨m, ρ, μ, R0, E0, (Post.toS R0 E0 P).mono fun vs H1 ⟨m1, μ1, ds, E, R1, T1, P0, P1⟩ => ?_⟩
  split at P1
  · rename_i d1 d2 _
    obtain ⟨v, t, rfl, q1, q2⟩ := T1.cons_iff
    obtain ⟨w, t2, rfl, q3, q4⟩ := q2.cons_iff
    rw [q4.nil_iff]
    exact ⟨v, w, rfl, P1 m1 H1 _ .refl R1 (((E0.ext E R0).set q1).set q3)⟩
  · exact P1.elim
end
end Mi
end
section
set_option Elab.async false
set_option linter.all false
set_option maxRecDepth 100000
set_option maxHeartbeats 1000000
/-! MiH: what is walked, loops, comprehensions. -/
namespace Mi
open PySem PySem.Spec PyProof.Rows L2
/-- how an iterator gives the items -/
structure ItR (K : PySem.W.Frag) (m : List Addr) (H : Hp) (μ : Hq) (it : Itm) (J : It) : Prop where
  at_ : ∀ r, it.lk = some r → μ[r]? = some (.lst it.xs) ∨ μ[r]? = some (.fz it.xs)
  go : ∃ G Y, Walk J it.xs.length G Y ∧ (∀ m' H' μ', Ext m H (lockq it.lk it.xs μ) m' H' μ' → Rp K m' H' μ' → G H') ∧
    ∀ i x m1 H1 μ1 H2, i < it.xs.length → Ext m H (lockq it.lk it.xs μ) m1 H1 μ1 → Rp K m1 H1 μ1 → Y i H1 x H2 → ∃ d, it.xs[i]? = some d ∧ Ext m1 H1 μ1 m1 H2 μ1 ∧ Rp K m1 H2 μ1 ∧ DR K m1 H2 d x
section
variable (K : PySem.W.Frag) (C : CT) (W : WX)
def PostI (Wx : WXe) (m : List Addr) (H : Hp) (μ : Hq) (r : R Itm) (Q : It → Hp → Prop) : Prop := match r with
  | .ok it μ' => ∀ m' H' J, Ext m H μ m' H' μ' → Rp K m' H' μ' → ItR K m' H' μ' it J → Q J H'
  | .exc c p μ' => ∀ m' H' dx, Ext m H μ m' H' μ' → Rp K m' H' μ' → PR K m' H' (C c).2 p dx → Wx (C c).1 dx H'
  | .fail => False
def tI (f : IF) : TI := fun σ H Q => ∃ m ρ μ, Rp K m H μ ∧ Re K m σ H ρ ∧ PostI K C (fun c d H => W c d σ H) m H μ (f ρ μ) Q
end
section
variable {X : Cx} {C : CT} {W : WX} {a b c e tg : Expr} {fa fb fe : EF} {es rest : List Expr} {as : AF} {pos : Pos} {m m1 m' : List Addr} {H H1 H' : Hp} {μ μ1 μ' : Hq} {K : PySem.W.Frag}
theorem PI.imp {iter : Expr} {t t' : TI} (h : PI X tg iter t) (i : ∀ σ H Q, t' σ H Q → t σ H Q) : PI X tg iter t' := ⟨fun p s σ H Q I q => h.run p s σ H Q I (i _ _ _ q)⟩
theorem PostI.step {Wx : WXe} {r : R Itm} {Q : It → Hp → Prop} (E : Ext m H μ m1 H1 μ1) (h : PostI K C Wx m H μ r Q) : PostI K C Wx m1 H1 μ1 r Q := by
  cases r with
  | ok t μ' => exact fun m' H' v F R' q => h m' H' v (E.trans F) R' q
  | exc c p μ' => exact fun m' H' dx F R' q => h m' H' dx (E.trans F) R' q
  | fail => exact h
theorem PostI.bind {α β : Type} {rel : Hp → List Addr → Hp → α → β → Prop} {Wx : WXe} {r : R α} {f : α → Hq → R Itm} {Q : It → Hp → Prop} (h : PostI K C Wx m H μ (r.bind f) Q) :
    Post rel K C Wx m H μ r (fun v H1 => ∃ m1 μ1 a, Ext m H μ m1 H1 μ1 ∧ Rp K m1 H1 μ1 ∧ rel H m1 H1 a v ∧ PostI K C Wx m1 H1 μ1 (f a μ1) Q) := by
  cases r with
  | ok t μ' => exact fun m' H' v E R q => ⟨m', μ', t, E, R, q, PostI.step E h⟩
  | exc c p μ' => exact h
  | fail => exact h
theorem PostI.ok {Wx : WXe} {it : Itm} {J : It} {Q : It → Hp → Prop} (R : Rp K m H μ) (h : PostI K C Wx m H μ (.ok it μ) Q) (q : ItR K m H μ it J) : Q J H := h m H J .refl R q
/-- the small heap, a list locked -/
theorem Rp.lock {xs : List D} {r : Nat} (R : Rp K m H μ) (h : μ[r]? = some (.lst xs) ∨ μ[r]? = some (.fz xs)) : Rp K m H (μ.set r (.fz xs)) := by
  refine ⟨by simpa using R.len, R.nd, fun s p o e1 e2 => ?_⟩
  by_cases hs : r = s
  · subst hs
    have hl : r < μ.length := by
      rcases h with h | h <;> exact (List.getElem?_eq_some_iff.mp h).1
    rw [List.getElem?_set_self hl] at e2; cases e2
    rcases h with h | h
    · have q : OR K m H p (.lst xs) := R.ob r p _ e1 h
      exact q
    · exact R.ob r p _ e1 h
  · rw [List.getElem?_set_ne hs] at e2
    exact R.ob s p o e1 e2
theorem Ext.lock {xs : List D} {r : Nat} (h : μ[r]? = some (.lst xs) ∨ μ[r]? = some (.fz xs)) : Ext m H μ m H (μ.set r (.fz xs)) := by
  refine ⟨⟨[], by simp⟩, fun _ _ e _ => e, fun _ h n => absurd h n, fun s p ys e1 e2 => ⟨?_, rfl⟩⟩
  by_cases hs : r = s
  · subst hs
    have hl := (List.getElem?_eq_some_iff.mp e2).1
    rw [List.getElem?_set_self hl]
    rcases h with h | h
    · rw [h] at e2; cases e2
    · rw [h] at e2; exact e2
  · rw [List.getElem?_set_ne hs]; exact e2
theorem ItR.lockR {it : Itm} {J : It} (I : ItR K m H μ it J) (R : Rp K m H μ) : Rp K m H (lockq it.lk it.xs μ) := by
  unfold lockq
  split
  · rename_i r hr
    exact R.lock (I.at_ r hr)
  · exact R
theorem ItR.lockE {it : Itm} {J : It} (I : ItR K m H μ it J) : Ext m H μ m H (lockq it.lk it.xs μ) := by
  unfold lockq
  split
  · rename_i r hr
    exact Ext.lock (I.at_ r hr)
  · exact .refl
/-- behind the walk: the lock is taken off -/
theorem unlock_ok {it : Itm} {J : It} (I : ItR K m H μ it J) (R : Rp K m H μ) (E : Ext m H (lockq it.lk it.xs μ) m1 H1 μ1) (R1 : Rp K m1 H1 μ1) : Ext m H μ m1 H1 (unlockq it.lk μ μ1) ∧ Rp K m1 H1 (unlockq it.lk μ μ1) := by
  have E' : Ext m H μ m1 H1 μ1 := I.lockE.trans E
  unfold unlockq
  cases hl : it.lk with
  | none => exact ⟨E', R1⟩
  | some r =>
    have ha := I.at_ r hl
    have hlt : r < μ.length := by rcases ha with h | h <;> exact (List.getElem?_eq_some_iff.mp h).1
    obtain ⟨p, hp⟩ : ∃ p, m[r]? = some p := ⟨m[r]'(by rw [R.len]; exact hlt), List.getElem?_eq_getElem _⟩
    have hfz : (lockq it.lk it.xs μ)[r]? = some (.fz it.xs) := by
      rw [hl]; exact List.getElem?_set_self hlt
    obtain ⟨k1, k2⟩ := E.lk r p _ hp hfz
    have hp1 : m1[r]? = some p := E.sub hp
    cases ho : μ[r]? with
    | none => rw [ho] at ha; rcases ha with h | h <;> cases h
    | some o =>
      dsimp only
      rw [ho]
      dsimp only
      have hl1 : r < μ1.length := (List.getElem?_eq_some_iff.mp k1).1
      refine ⟨⟨E'.pre, E'.oth, E'.new, fun s q ys e1 e2 => ?_⟩, ⟨by simpa using R1.len, R1.nd, fun s q u e1 e2 => ?_⟩⟩
      · obtain ⟨f1, f2⟩ := E'.lk s q ys e1 e2
        refine ⟨?_, f2⟩
        by_cases hs : r = s
        · subst hs
          rw [List.getElem?_set_self hl1, ← ho]; exact e2
        · rw [List.getElem?_set_ne hs]; exact f1
      · by_cases hs : r = s
        · subst hs
          rw [List.getElem?_set_self hl1] at e2; cases e2
          have q1 := R1.ob r q _ e1 k1
          rw [ho] at ha
          rcases ha with h | h
          · cases h; exact q1
          · cases h; exact q1
        · rw [List.getElem?_set_ne hs] at e2
          exact R1.ob s q u e1 e2
/-- a walk over a list or a tuple that stands -/
theorem itr_tup {xs : List D} {p : Addr} {vs : List V} (R : Rp K m H μ) (h1 : SqT K H p vs) (h2 : DsR K m H xs vs) : ItR K m H μ ⟨xs, none⟩ (Itt K p) := by
  refine ⟨fun r e => (nomatch e), (fun H => SqT K H p vs), YAt vs, ?_, fun m' H' μ' E R' => Mi.SqT.ext E R h1, fun i x m1 H1 μ1 H2 hi E R1 y => ?_⟩
  · show Walk (Itt K p) xs.length _ _
    rw [h2.length]; exact walk_tup
  · obtain ⟨rfl, y⟩ := y
    obtain ⟨d, e1, e2⟩ := (h2.ext E R).getV y
    exact ⟨d, e1, .refl, R1, e2⟩
theorem itr_fl {xs : List D} {p : Addr} {vs : List V} (R : Rp K m H μ) (h1 : FzL K H p vs) (h2 : DsR K m H xs vs) : ItR K m H μ ⟨xs, none⟩ (Itl K p) := by
  refine ⟨fun r e => (nomatch e), (fun H => SqL K H p vs), YAt vs, ?_, fun m' H' μ' E R' => (h1.ext E R).now, fun i x m1 H1 μ1 H2 hi E R1 y => ?_⟩
  · show Walk (Itl K p) xs.length _ _
    rw [h2.length]; exact walk_list
  · obtain ⟨rfl, y⟩ := y
    obtain ⟨d, e1, e2⟩ := (h2.ext E R).getV y
    exact ⟨d, e1, .refl, R1, e2⟩
theorem itr_new {xs : List D} {p : Addr} {vs : List V} (R : Rp K m H μ) (hn : p ∉ m) (h1 : H p = some (.lst vs)) (h2 : DsR K m H xs vs) : ItR K m H μ ⟨xs, none⟩ (Itl K p) := by
  refine ⟨fun r e => (nomatch e), (fun H => SqL K H p vs), YAt vs, ?_, fun m' H' μ' E R' => .of (E.oth p _ h1 hn), fun i x m1 H1 μ1 H2 hi E R1 y => ?_⟩
  · show Walk (Itl K p) xs.length _ _
    rw [h2.length]; exact walk_list
  · obtain ⟨rfl, y⟩ := y
    obtain ⟨d, e1, e2⟩ := (h2.ext E R).getV y
    exact ⟨d, e1, .refl, R1, e2⟩
theorem itr_ref {xs : List D} {r : Nat} {p : Addr} {vs : List V} (R : Rp K m H μ) (hr : m[r]? = some p) (ha : μ[r]? = some (.lst xs) ∨ μ[r]? = some (.fz xs)) (h1 : H p = some (.lst vs)) (h2 : DsR K m H xs vs) : ItR K m H μ ⟨xs, some r⟩ (Itl K p) := by
  have hlt : r < μ.length := by rcases ha with h | h <;> exact (List.getElem?_eq_some_iff.mp h).1
  have R' : Rp K m H (μ.set r (.fz xs)) := R.lock ha
  refine ⟨fun s e => by cases e; exact ha, (fun H => SqL K H p vs), YAt vs, ?_, fun m' H' μ' E _ => ?_, fun i x m1 H1 μ1 H2 hi E R1 y => ?_⟩
  · show Walk (Itl K p) xs.length _ _
    rw [h2.length]; exact walk_list
  · obtain ⟨k1, k2⟩ := E.lk r p xs hr (List.getElem?_set_self hlt)
    exact .of (k2.trans h1)
  · obtain ⟨rfl, y⟩ := y
    obtain ⟨d, e1, e2⟩ := (h2.ext E R').getV y
    exact ⟨d, e1, .refl, R1, e2⟩
theorem itr_range {lo : Int} {n : Nat} (R : Rp K m H μ) : ItR K m H μ ⟨rangeD lo n, none⟩ (Itr lo n) := by
  have hlen : ∀ (n : Nat) (lo : Int), (rangeD lo n).length = n := by
    intro n
    induction n with
    | zero => intro lo; rfl
    | succ n ih => intro lo; show (rangeD (lo + 1) n).length + 1 = _; rw [ih]
  have hget : ∀ (n i : Nat) (lo : Int), i < n → (rangeD lo n)[i]? = some (.int (lo + i)) := by
    intro n
    induction n with
    | zero => intro i lo h; exact absurd h (Nat.not_lt_zero _)
    | succ n ih =>
      intro i lo h
      cases i with
      | zero => show some (D.int lo) = _; simp
      | succ i =>
        show (rangeD (lo + 1) n)[i]? = _
        rw [ih i (lo + 1) (by omega)]
        congr 2
        omega
  refine ⟨fun r e => (nomatch e), (fun _ => True), (YFn fun i => .int (lo + i)), ?_, fun m' H' μ' E R' => trivial, fun i x m1 H1 μ1 H2 hi E R1 y => ?_⟩
  · show Walk (Itr lo n) (rangeD lo n).length _ _
    rw [hlen]; exact walk_range
  · obtain ⟨rfl, rfl⟩ := y
    have hi : i < (rangeD lo n).length := hi
    rw [hlen] at hi
    exact ⟨_, hget n i lo hi, .refl, R1, by unfold DR; rfl⟩
/-- the three kinds of things that stand and are walked -/
def iAny (K : PySem.W.Frag) (te : TE) : TI := fun σ H R => te σ H fun x H1 => ∃ p, x = .ref p ∧ ((∃ xs, SqL K H1 p xs) ∧ R (Itl K p) H1 ∨ (∃ xs, SqT K H1 p xs) ∧ R (Itt K p) H1)
theorem pi_any {l : Expr} {tl : TE} (hl : PE X l tl) : PI X tg l (iAny X.K tl) := by
  refine ⟨fun pins s σ H R I h => ?_⟩
  refine thn (hl.run pins s σ H _ I h) fun v s1 ⟨x, H1, I1, r1, q1⟩ => ?_
  obtain ⟨p, e, q1⟩ := q1
  subst e
  cases r1
  rcases q1 with ⟨⟨xs, hq⟩, q⟩ | ⟨⟨xs, hq⟩, q⟩
  · obtain ⟨its, rv, pl, hz⟩ := I1.list hq
    refine wpAny_pyIter_list pl.isList ?_
    refine ⟨s1.heap.objs.size, [s1.heap.objs.size], _, _, H1, rfl, I1.kept (t' := s1.toks) fun b o e => Heap.get?_push_of_some _ e, turn_list p _, ⟨_, Heap.get?_push_size _ rfl, rfl, rfl⟩, fun b hb => ?_, q⟩
    have e : b = s1.heap.objs.size := by simpa using hb
    subst e
    exact I1.fpOk (Nat.le_refl _) (I1.hok.fresh (Nat.le_refl _))
  · obtain ⟨its, rv, pl, hz⟩ := I1.tuple hq
    refine wpAny_pyIter_tuple (show s1.heap.IsTuple p its.toArray from pl) ?_
    refine ⟨s1.heap.objs.size, [s1.heap.objs.size], _, _, H1, rfl, I1.kept (t' := s1.toks) fun b o e => Heap.get?_push_of_some _ e, turn_tuple p _, ⟨_, Heap.get?_push_size _ rfl, rfl, rfl⟩, fun b hb => ?_, q⟩
    have e : b = s1.heap.objs.size := by simpa using hb
    subst e
    exact I1.fpOk (Nat.le_refl _) (I1.hok.fresh (Nat.le_refl _))
theorem iv_e (he : PE X e (tE X.K C W fe)) : PI X tg e (tI X.K C W (iE fe)) := by
  refine PI.imp (pi_any he) fun σ H Q h => ?_
  obtain ⟨m, ρ, μ, R0, E0, P⟩ := h
  refine ⟨m, ρ, μ, R0, E0, (PostI.bind P).mono fun v H1 ⟨m1, μ1, t, E, R1, T1, P1⟩ => ?_⟩
  have T := T1.1
  clear T1
  split at P1
  · rename_i it hit
    unfold itOf at hit
    split at hit
    · cases hit
      obtain ⟨p, vs, rfl, h1, h2⟩ := tup_TC T
      exact ⟨p, rfl, .inr ⟨⟨vs, h1⟩, PostI.ok R1 P1 (itr_tup R1 h1 h2)⟩⟩
    · cases hit
      have T : DR X.K m1 H1 (.fl _) v := T
      unfold DR at T
      obtain ⟨p, vs, rfl, h1, h2⟩ := T
      exact ⟨p, rfl, .inl ⟨⟨vs, h1.now⟩, PostI.ok R1 P1 (itr_fl R1 h1 h2)⟩⟩
    · cases hit
      obtain ⟨p, vs, rfl, hn, h1, h2⟩ := T
      exact ⟨p, rfl, .inl ⟨⟨vs, .of h1⟩, PostI.ok R1 P1 (itr_new R1 hn h1 h2)⟩⟩
    · rename_i r
      split at hit
      · rename_i xs hx
        cases hit
        have T : DR X.K m1 H1 (.ref r) v := T
        unfold DR at T
        obtain ⟨p, rfl, hr⟩ := T
        have ha : μ1[r]? = some (.lst xs) ∨ μ1[r]? = some (.fz xs) := by
          cases q : μ1[r]? with
          | none => rw [q] at hx; cases hx
          | some o => rw [q] at hx; cases o <;> cases hx <;> simp
        obtain ⟨vs, h1, h2⟩ : OR X.K m1 H1 p (.lst xs) := by
          rcases ha with h | h
          · exact R1.ob r p _ hr h
          · have q : OR X.K m1 H1 p (.fz xs) := R1.ob r p _ hr h
            exact q
        exact ⟨p, rfl, .inl ⟨⟨vs, .of h1⟩, PostI.ok R1 P1 (itr_ref R1 hr ha h1 h2)⟩⟩
      · cases hit
    · cases hit
  · exact P1.elim
theorem iv_range1 {p : Pos} (hg : Gl X "range") (hm : X.mg "range" = none) (ha : PE X a (tE X.K C W fa)) (hs : starEach [a] X.env = [(false, eval a X.env)] := by rfl) : PI X tg (.Call (.Name "range" p) [a] [] pos) (tI X.K C W (iRange1 fa)) := by
  refine PI.imp (pi_range1 hg hm (pa_cons ha pa_nil hs) hs) fun σ H Q h => ?_
  obtain ⟨m, ρ, μ, R0, E0, P⟩ := h
  refine ⟨m, ρ, μ, R0, E0, (PostI.bind P).mono fun v H1 ⟨m1, μ1, t, E, R1, T1, P1⟩ => ?_⟩
  split at P1
  · rename_i n
    by_cases hn : n < 1000000000 ∧ -1000000000 < n
    · rw [if_pos hn] at P1
      exact ⟨n, by rw [int_TC T1.1], by omega, by omega, PostI.ok R1 P1 (itr_range R1)⟩
    · rw [if_neg hn] at P1; exact P1.elim
  · exact P1.elim
theorem iv_range2 {p : Pos} (hg : Gl X "range") (hm : X.mg "range" = none) (ha : PE X a (tE X.K C W fa)) (hb : PE X b (tE X.K C W fb)) (hs : starEach [a, b] X.env = [(false, eval a X.env), (false, eval b X.env)] := by rfl) (hs2 : starEach [b] X.env = [(false, eval b X.env)] := by rfl) : PI X tg (.Call (.Name "range" p) [a, b] [] pos) (tI X.K C W (iRange2 fa fb)) := by
  refine PI.imp (pi_range2 hg hm (pa_cons ha (pa_cons hb pa_nil hs2) (by rw [hs, hs2])) hs hs2) fun σ H Q h => ?_
  obtain ⟨m, ρ, μ, R0, E0, P⟩ := h
  refine ⟨m, ρ, μ, R0, E0, (PostI.bind P).mono fun v H1 ⟨m1, μ1, t, E, R1, T1, P1⟩ => ?_⟩
  refine ⟨m1, ρ, μ1, R1, E0.ext E R0, (PostI.bind P1).mono fun w H2 ⟨m2, μ2, t2, F, R2', T2, P2⟩ => ?_⟩
  have e1 := T1.1.ext F R1
  have e2 := T2.1
  clear T1 T2
  split at P2
  · rename_i it hit
    unfold rgOf at hit
    split at hit
    · rename_i lo hi
      split at hit
      · rename_i hn
        cases hit
        have e1 := int_TC e1
        have e2 := int_TC e2
        subst e1 e2
        exact ⟨_, _, rfl, by omega, PostI.ok R2' P2 (itr_range R2')⟩
      · cases hit
    · cases hit
  · exact P2.elim
end
end Mi
end
section
set_option Elab.async false
set_option linter.all false
set_option maxRecDepth 100000
set_option maxHeartbeats 1000000
/-! MiI: loops, comprehensions, defs. -/
namespace Mi
open PySem PySem.Spec PyProof.Rows L2
section
variable {X : Cx} {C : CT} {W : WX} {a b c e tg : Expr} {fa fb fe : EF} {fc : TF} {es rest : List Expr} {as : AF} {pos : Pos} {m m1 m' : List Addr} {H H1 H' : Hp} {μ μ1 μ' : Hq} {K : PySem.W.Frag} {f : SF} {gg : GF} {fi : IF} {bod : List Stmt}
/-- what a statement is asked: its ends told of another start -/
theorem PostS.ends {r : RS} {D D' : Ends} (h : PostS K C W m H μ r D) (hn : ∀ σ H, D.nx σ H → D'.nx σ H) (hr : ∀ v H, D.rt v H → D'.rt v H) (hb : ∀ σ H, D.bk σ H → D'.bk σ H) (hc : ∀ σ H, D.ct σ H → D'.ct σ H) : PostS K C W m H μ r D' := by
  cases r with
  | ok f ρ' μ' => cases f with
    | nx => exact fun m' H' σ' F R' q => hn _ _ (h m' H' σ' F R' q)
    | bk => exact fun m' H' σ' F R' q => hb _ _ (h m' H' σ' F R' q)
    | ct => exact fun m' H' σ' F R' q => hc _ _ (h m' H' σ' F R' q)
    | rt t => exact fun m' H' v F R' q => hr _ _ (h m' H' v F R' q)
  | exc c p ρ' μ' => exact h
  | fail => exact h
/-- behind a loop the lock is taken off: the loop's own wish at the locked heap from the wish at the heap ahead -/
theorem unlock_post {it : Itm} {J : It} {r : RS} {D : Ends} (I : ItR K m H μ it J) (R : Rp K m H μ) (h : PostS K C W m H μ (unlockS it.lk μ r) D) : PostS K C W m H (lockq it.lk it.xs μ) r D := by
  cases r with
  | ok f ρ' μ' => cases f with
    | nx => exact fun m' H' σ' F R' q => let ⟨G, S⟩ := unlock_ok I R F R'; h m' H' σ' G S q
    | bk => exact fun m' H' σ' F R' q => let ⟨G, S⟩ := unlock_ok I R F R'; h m' H' σ' G S q
    | ct => exact fun m' H' σ' F R' q => let ⟨G, S⟩ := unlock_ok I R F R'; h m' H' σ' G S q
    | rt t => exact fun m' H' v F R' q => let ⟨G, S⟩ := unlock_ok I R F R'; h m' H' v G S q
  | exc c p ρ' μ' => exact fun m' H' σ' dx F R' q => let ⟨G, S⟩ := unlock_ok I R F R'; h m' H' σ' dx G S q
  | fail => exact h
theorem sv_for (po : PassesOwn (model X.prog X.w) X.A X.env X.xe) (hc : X.calm = true) (hi : PI X tg e (tI X.K C W fi)) (hg : PG X tg (tG X.K C W gg)) (hb : PSs X bod (tS X.K C W f)) (hs : ∀ x, foldedSetIterable e X.env x = pure x := by intro _; rfl) :
    PS X (.For tg e bod [] pos) (tS X.K C W (sFor gg fi f)) := by
  refine PS.imp (ps_for po hc hi hg hb hs) fun D σ H h => ?_
  obtain ⟨m, ρ, μ, R0, E0, P⟩ := h
  refine ⟨m, ρ, μ, R0, E0, ?_⟩
  unfold sFor at P
  cases q : fi ρ μ with
  | fail => rw [q] at P; exact P
  | exc c p μ1 => rw [q] at P; exact fun m' H' dx E R pr => P m' H' σ dx E R (E0.ext E R0) pr
  | ok it μ1 =>
    rw [q] at P
    intro m1 H1 J E1 R1 I
    have P1 : PostS X.K C W m1 H1 μ1 (unlockS it.lk μ1 (foGo gg f it.xs ρ (lockq it.lk it.xs μ1))) D := PostS.step E1 R1 P
    have P2 := unlock_post I R1 P1
    have RL := I.lockR R1
    obtain ⟨G, Y, hw, hG, hY⟩ := I.go
    refine for_it hw (fun i σ' H' => ∃ m' ρ' μ', Ext m1 H1 (lockq it.lk it.xs μ1) m' H' μ' ∧ Rp X.K m' H' μ' ∧ Re X.K m' σ' H' ρ' ∧ PostS X.K C W m' H' μ' (foGo gg f (it.xs.drop i) ρ' μ') D)
      ⟨m1, ρ, _, .refl, RL, E0.ext E1 R0, by rw [List.drop_zero]; exact P2⟩ (fun i σ' H' _ ⟨m', ρ', μ', E, R, _, _⟩ => hG m' H' μ' E R) (fun i x σ' H' H2 hi ⟨m', ρ', μ', E, R, Er, Pi⟩ y => ?_) (fun σ' H' ⟨m', ρ', μ', E, R, Er, Pi⟩ => ?_)
    · obtain ⟨d, ed, Ed, Rd, Dd⟩ := hY i x m' H' μ' H2 hi E R y
      have hd : it.xs.drop i = d :: it.xs.drop (i + 1) := by
        rw [List.drop_eq_getElem_cons hi]
        have := (List.getElem?_eq_some_iff.mp ed)
        obtain ⟨_, e2⟩ := this
        rw [e2]
      rw [hd] at Pi
      have Pi2 : PostS X.K C W m' H2 μ' ((gg d ρ' μ').toS ρ' fun ρ1 μ1 => match f ρ1 μ1 with
        | .ok .nx ρ2 μ2 => foGo gg f (it.xs.drop (i + 1)) ρ2 μ2
        | .ok .ct ρ2 μ2 => foGo gg f (it.xs.drop (i + 1)) ρ2 μ2
        | .ok .bk ρ2 μ2 => .ok .nx ρ2 μ2
        | r => r) D := PostS.step Ed Rd Pi
      have Er2 := Er.ext Ed R
      refine ⟨m', ρ', μ', d, Rd, Er2, Dd, (Post.toS Rd Er2 Pi2).mono fun σ2 H3 ⟨m3, μ3, ρ3, E3, R3, T3, P30, P3⟩ => ?_⟩
      refine ⟨m3, ρ3, μ3, R3, T3, ?_⟩
      cases qf : f ρ3 μ3 with
      | fail => rw [qf] at P3; exact P3
      | exc c p ρ4 μ4 => rw [qf] at P3; exact P3
      | ok fl ρ4 μ4 =>
        rw [qf] at P3
        cases fl with
        | nx => exact fun m4 H4 σ4 F R4 q4 => ⟨m4, ρ4, μ4, ((E.trans Ed).trans E3).trans F, R4, q4, PostS.step F R4 P3⟩
        | ct => exact fun m4 H4 σ4 F R4 q4 => ⟨m4, ρ4, μ4, ((E.trans Ed).trans E3).trans F, R4, q4, PostS.step F R4 P3⟩
        | bk => exact P3
        | rt t => exact P3
    · rw [List.drop_length] at Pi
      exact Pi m' H' σ' .refl R Er
theorem whGo_zero {c : TF} {b : SF} : whGo c b 0 = fun _ _ => .fail := rfl
theorem sv_while (po : PassesOwn (model X.prog X.w) X.A X.env X.xe) (hc : PT X c (tT X.K C W fc)) (hb : PSs X bod (tS X.K C W f)) : PS X (.While c bod [] pos) (tS X.K C W (sWh fc f)) := by
  refine PS.imp (ps_while po hc hb) fun D σ H h => ?_
  obtain ⟨m, ρ, μ, R0, E0, P⟩ := h
  unfold sWh at P
  refine ⟨fun n σ' H' => ∃ m' ρ' μ', Rp X.K m' H' μ' ∧ Re X.K m' σ' H' ρ' ∧ PostS X.K C W m' H' μ' (whGo fc f n ρ' μ') D, ⟨big, m, ρ, μ, R0, E0, P⟩, ?_⟩
  rintro n σ1 H1 ⟨m1, ρ1, μ1, R1, E1, P1⟩
  cases n with
  | zero => exact P1.elim
  | succ n =>
    refine ⟨m1, ρ1, μ1, R1, E1, (Post.toS R1 E1 P1).mono fun k H2 ⟨m2, μ2, k', F, R2', T, P20, P2⟩ => ?_⟩
    have T : k' = k := T
    subst T
    cases k' with
    | false => exact iteF (P2 m2 H2 σ1 .refl R2' (E1.ext F R1))
    | true =>
      refine iteT ⟨fun σ' H' => ∃ m' ρ' μ', Rp X.K m' H' μ' ∧ Re X.K m' σ' H' ρ' ∧ PostS X.K C W m' H' μ' (whGo fc f n ρ' μ') D, fun σ' H' h => ⟨n, Nat.lt_succ_self _, h⟩, m2, ρ1, μ2, R2', E1.ext F R1, ?_⟩
      have P2 : PostS X.K C W m2 H2 μ2 (match f ρ1 μ2 with
        | .ok .nx ρ2 μ2 => whGo fc f n ρ2 μ2
        | .ok .ct ρ2 μ2 => whGo fc f n ρ2 μ2
        | .ok .bk ρ2 μ2 => .ok .nx ρ2 μ2
        | r => r) D := P2
      cases qf : f ρ1 μ2 with
      | fail => rw [qf] at P2; exact P2
      | exc c p ρ4 μ4 => rw [qf] at P2; exact P2
      | ok fl ρ4 μ4 =>
        rw [qf] at P2
        cases fl with
        | nx => exact fun m4 H4 σ4 F R4 q4 => ⟨m4, ρ4, μ4, R4, q4, PostS.step F R4 P2⟩
        | ct => exact fun m4 H4 σ4 F R4 q4 => ⟨m4, ρ4, μ4, R4, q4, PostS.step F R4 P2⟩
        | bk => exact P2
        | rt t => exact P2

/-! ### comprehensions -/
/-- no exception -/
abbrev W0 : WX := fun _ _ _ _ => False
theorem ts_nil : PTs X [] (tT X.K C W tYs) := ⟨fun pins s σ H Q I h => pts_nil.run pins s σ H Q I (by
  obtain ⟨m, ρ, μ, R0, E0, P⟩ := h
  exact Post.ok R0 P rfl)⟩
/-- a comprehension's target: its own names alone, the heap as it is -/
structure GLc (K : PySem.W.Frag) (g : TG) (gg : GF) (vs : List Nat) : Prop where
  same : ∀ d ρ μ ρ1 μ1, gg d ρ μ = .ok ρ1 μ1 → μ1 = μ
  to : ∀ (m : List Addr) (H : Hp) (μ : Hq) (ρ : Ev) (σ : L2.St) (d : D) (x : V) (ρ1 : Ev) (μ1 : Hq), Rp K m H μ → Re K m σ H ρ → DR K m H d x → gg d ρ μ = .ok ρ1 μ1 →
    ∀ Q : L2.St → Hp → Prop, (∀ σ1, Re K m σ1 H ρ1 → L2.wipe σ1 vs = L2.wipe σ vs → Q σ1 H) → g x σ H Q
structure GsLc (K : PySem.W.Frag) (g : TGs) (gg : GsF) (vs : List Nat) (n : Nat) : Prop where
  same : ∀ d ρ μ ρ1 μ1, gg d ρ μ = .ok ρ1 μ1 → μ1 = μ
  len : GsL gg n
  to : ∀ (m : List Addr) (H : Hp) (μ : Hq) (ρ : Ev) (σ : L2.St) (ds : List D) (xs : List V) (ρ1 : Ev) (μ1 : Hq), Rp K m H μ → Re K m σ H ρ → DsR K m H ds xs → gg ds ρ μ = .ok ρ1 μ1 →
    ∀ Q : L2.St → Hp → Prop, (∀ σ1, Re K m σ1 H ρ1 → L2.wipe σ1 vs = L2.wipe σ vs → Q σ1 H) → g xs σ H Q
theorem wipe_set {i : Nat} {v : Option V} : ∀ {vs : List Nat} {σ : L2.St}, i ∈ vs → L2.wipe (σ.set i v) vs = L2.wipe σ vs
  | [], _, h => absurd h (by simp)
  | j :: vs, σ, h => by
    unfold L2.wipe
    by_cases e : i ∈ vs
    · rw [wipe_set e]
    · have hj : i = j := by
        rcases List.mem_cons.mp h with h | h
        · exact h
        · exact absurd h e
      subst hj
      have key : ∀ (vs : List Nat) (σ : L2.St), i ∉ vs → L2.wipe (σ.set i v) vs = (L2.wipe σ vs).set i v := by
        intro vs
        induction vs with
        | nil => intro σ _; rfl
        | cons k ks ih =>
          intro σ hk
          unfold L2.wipe
          rw [ih σ fun z => hk (List.mem_cons_of_mem _ z)]
          exact List.set_comm _ _ fun z => hk (by rw [z]; exact List.mem_cons_self)
      rw [key vs σ e, List.set_set]
theorem wipe_sub {vs : List Nat} : ∀ {us : List Nat} {σ : L2.St}, (∀ i ∈ us, i ∈ vs) → L2.wipe (L2.wipe σ us) vs = L2.wipe σ vs
  | [], _, _ => rfl
  | i :: us, σ, h => by
    show L2.wipe ((L2.wipe σ us).set i none) vs = _
    rw [wipe_set (h i List.mem_cons_self)]
    exact wipe_sub fun j hj => h j (List.mem_cons_of_mem _ hj)
theorem wipe_wipe {vs : List Nat} {σ : L2.St} : L2.wipe (L2.wipe σ vs) vs = L2.wipe σ vs := wipe_sub fun _ h => h
theorem glc_name {i : Nat} {vs : List Nat} (h : i ∈ vs) : GLc K (gName i) (gN i) vs := by
  refine ⟨fun d ρ μ ρ1 μ1 e => ?_, fun m H μ ρ σ d x ρ1 μ1 R E D0 e => ?_⟩
  · unfold gN at e; cases e; rfl
  · unfold gN at e
    cases e
    exact fun Q hQ => hQ _ (E.set D0) (wipe_set h)
theorem gslc_nil {vs : List Nat} : GsLc K gNil gsNil vs 0 := by
  refine ⟨fun d ρ μ ρ1 μ1 e => ?_, gsl_nil, fun m H μ ρ σ ds xs ρ1 μ1 R E D0 e => ?_⟩
  · unfold gsNil at e
    split at e <;> cases e; rfl
  · unfold gsNil at e
    split at e
    · cases e
      exact fun Q hQ => ⟨D0.nil_iff, hQ _ E rfl⟩
    · cases e
theorem gsCons_inv {gg : GF} {ggs : GsF} {ds : List D} {ρ ρ1 : Ev} {μ μ1 : Hq} (e : gsCons gg ggs ds ρ μ = .ok ρ1 μ1) : ∃ d t ρ2 μ2, ds = d :: t ∧ gg d ρ μ = .ok ρ2 μ2 ∧ ggs t ρ2 μ2 = .ok ρ1 μ1 := by
  unfold gsCons at e
  split at e
  · rename_i d t
    cases q : gg d ρ μ with
    | fail => rw [q] at e; cases e
    | exc _ _ _ => rw [q] at e; cases e
    | ok ρ2 μ2 =>
      rw [q] at e
      dsimp only at e
      cases q2 : ggs t ρ2 μ2 with
      | fail => rw [q2] at e; cases e
      | exc _ _ _ => rw [q2] at e; cases e
      | ok ρ3 μ3 =>
        rw [q2] at e
        cases e
        exact ⟨d, t, ρ2, μ2, rfl, q, q2⟩
  · cases e
theorem gslc_cons {g : TG} {gg : GF} {gs : TGs} {ggs : GsF} {vs : List Nat} {n : Nat} (h1 : GLc K g gg vs) (h2 : GsLc K gs ggs vs n) : GsLc K (gCons g gs) (gsCons gg ggs) vs (n + 1) := by
  refine ⟨fun ds ρ μ ρ1 μ1 e => ?_, gsl_cons h2.len, fun m H μ ρ σ ds xs ρ1 μ1 R E D0 e => ?_⟩
  · obtain ⟨d, t, ρ2, μ2, rfl, e1, e2⟩ := gsCons_inv e
    exact (h2.same _ _ _ _ _ e2).trans (h1.same _ _ _ _ _ e1)
  · obtain ⟨d, t, ρ2, μ2, rfl, e1, e2⟩ := gsCons_inv e
    obtain ⟨v, r, rfl, d1, d2⟩ := D0.cons_iff
    have hm := h1.same _ _ _ _ _ e1
    subst hm
    exact fun Q hQ => ⟨v, r, rfl, h1.to m H μ2 ρ σ d v ρ2 μ2 R E d1 e1 _ fun σ1 E1 w1 => h2.to m H μ2 ρ2 σ1 t r ρ1 μ1 R E1 d2 e2 Q fun σ2 E2 w2 => hQ σ2 E2 (w2.trans w1)⟩
theorem glc_tup {gs : TGs} {ggs : GsF} {vs : List Nat} {n : Nat} (h : GsLc K gs ggs vs n) : GLc K (gTup K n gs) (gT ggs) vs := by
  refine ⟨fun d ρ μ ρ1 μ1 e => ?_, fun m H μ ρ σ d x ρ1 μ1 R E D0 e => ?_⟩
  · unfold gT at e
    split at e
    · exact h.same _ _ _ _ _ e
    · cases e
  · unfold gT at e
    split at e
    · rename_i xs
      unfold DR at D0
      obtain ⟨p, ws, rfl, h1, h2⟩ := D0
      exact fun Q hQ => ⟨p, ws, rfl, h1, (by rw [← h2.length]; exact (h.len xs ρ μ fun z => by rw [z] at e; cases e)), h.to m H μ ρ σ xs ws ρ1 μ1 R E h2 e Q hQ⟩
    · cases e
/-- an object that the small heap does not know is written -/
theorem Ext.other {D : Addr} {o : HO} (R : Rp K m H μ) (E : Ext m H μ m' H' μ') (hD : H D = none) (nD : D ∉ m') : Ext m H μ m' (upd H' D o) μ' := by
  refine ⟨E.pre, fun b u e n => ?_, E.new, fun r p xs e1 e2 => ?_⟩
  · rw [upd_ne (ne_of_none e hD)]; exact E.oth b u e n
  · obtain ⟨k1, k2⟩ := E.lk r p xs e1 e2
    refine ⟨k1, (upd_ne fun z => ?_).trans k2⟩
    exact nD (by rw [← z]; exact E.mem (List.mem_of_getElem? e1))
theorem Rp.other {D : Addr} {o : HO} {ws : List V} (R : Rp K m H μ) (nD : D ∉ m) (e : H D = some (.lst ws)) : Rp K m (upd H D o) μ :=
  ⟨R.len, R.nd, fun r p u e1 e2 => OR.mono (fun _ _ e => e) (fun _ _ q => Mi.SqT.write e q) (fun _ _ q => q.write e) (upd_ne fun z => nD (by rw [← z]; exact List.mem_of_getElem? e1)) (R.ob r p u e1 e2)⟩
theorem lc_to {own : List Nat} {g : TG} {σ : L2.St} {H : Hp} {Q : VK} (hg : GLc K g gg own) (h : tE K C W (eLc own gg fi fc fe) σ H Q) : tLc (tI K C W fi) g (tT K C W0 fc) (tE K C W0 fe) own σ H Q := by
  obtain ⟨m, ρ, μ, R0, E0, P⟩ := h
  refine ⟨m, ρ, μ, R0, E0, ?_⟩
  unfold eLc at P
  cases q : fi ρ μ with
  | fail => rw [q] at P; exact P
  | exc c p μ1 => rw [q] at P; exact P
  | ok it μ1 =>
    rw [q] at P
    intro m1 H1 J E1 R1 I D hD
    have P : Post (TR K) K C (fun c d H => W c d σ H) m H μ (match lcGo gg fc fe (wip ρ own) it.xs (lockq it.lk it.xs μ1) with
      | .ok ds μ2 => cap it.xs.length (.ok (.new (.lst ds)) (unlockq it.lk μ1 μ2))
      | _ => .fail) Q := P
    have RL := I.lockR R1
    have EL := I.lockE
    obtain ⟨G, Y, hw, hG, hY⟩ := I.go
    cases ql : lcGo gg fc fe (wip ρ own) it.xs (lockq it.lk it.xs μ1) with
    | fail => rw [ql] at P; exact P.elim
    | exc _ _ _ => rw [ql] at P; exact P.elim
    | ok ds0 μ2 =>
      rw [ql] at P
      obtain ⟨hz, P⟩ := cap_post P
      have hDm : D ∉ m1 := R1.fresh hD
      have Ed : Ext m1 H1 (lockq it.lk it.xs μ1) m1 (upd H1 D (.lst [])) (lockq it.lk it.xs μ1) := Ext.laid RL hD
      refine lc_it hw (fun i H' => ∃ m' μ' acc vacc rest, Ext m1 H1 (lockq it.lk it.xs μ1) m' H' μ' ∧ Rp K m' H' μ' ∧ D ∉ m' ∧ H' D = some (.lst vacc) ∧ DsR K m' H' acc vacc ∧ acc.length ≤ i ∧
          lcGo gg fc fe (wip ρ own) (it.xs.drop i) μ' = .ok rest μ2 ∧ ds0 = acc ++ rest)
        ⟨m1, _, [], [], ds0, Ed, RL.laid hD, hDm, upd_same, .nil, Nat.zero_le _, by rw [List.drop_zero]; exact ql, rfl⟩
        (fun i H' _ ⟨m', μ', acc, vacc, rest, E, R, _⟩ => hG m' H' μ' E R) (fun i x H' H2 hi ⟨m', μ', acc, vacc, rest, E, R, nD, eD, hA, hl, hL, hds⟩ y => ?_)
        (fun H' ⟨m', μ', acc, vacc, rest, E, R, nD, eD, hA, hl, hL, hds⟩ => ?_)
      · obtain ⟨d, ed, Exd, Rd, Dd⟩ := hY i x m' H' μ' H2 hi E R y
        have hd : it.xs.drop i = d :: it.xs.drop (i + 1) := by
          rw [List.drop_eq_getElem_cons hi]
          obtain ⟨_, e2⟩ := List.getElem?_eq_some_iff.mp ed
          rw [e2]
        rw [hd] at hL
        have Ez : Ext m1 H1 (lockq it.lk it.xs μ1) m' H2 μ' := E.trans Exd
        have Ew : Re K m' (wipe σ own) H2 (wip ρ own) := (((E0.ext E1 R0).ext EL R1).ext Ez RL).wip own
        have eD2 : H2 D = some (.lst vacc) := Exd.oth D _ eD nD
        have hA2 := hA.ext Exd R
        unfold lcGo at hL
        cases qg : gg d (wip ρ own) μ' with
        | fail => rw [qg] at hL; cases hL
        | exc _ _ _ => rw [qg] at hL; cases hL
        | ok ρ3 μ3 =>
          rw [qg] at hL
          have hm := hg.same _ _ _ _ _ qg
          subst hm
          refine hg.to m' H2 μ3 (wip ρ own) (L2.wipe σ own) d x ρ3 μ3 Rd Ew Dd qg _ fun σ3 T3 w3 => ?_
          refine ⟨?_, m', ρ3, μ3, Rd, T3, ?_⟩
          · rw [w3]
            exact wipe_wipe
          dsimp only at hL
          cases qc : fc ρ3 μ3 with
          | fail => rw [qc] at hL; cases hL
          | exc _ _ _ => rw [qc] at hL; cases hL
          | ok k μ4 =>
            rw [qc] at hL
            intro m4 H4 k' E4 R4 ek
            subst ek
            have Ea : Ext m' H2 μ3 m4 H4 μ4 := E4
            have nD4 : D ∉ m4 := fun z => by
              rw [Ea.new D z nD] at eD2; cases eD2
            have eD4 := Ea.oth D _ eD2 nD
            have hA4 := hA2.ext Ea Rd
            cases k with
            | false =>
              exact iteF ⟨m4, μ4, acc, vacc, rest, Ez.trans Ea, R4, nD4, eD4, hA4, by omega, hL, hds⟩
            | true =>
              refine iteT ⟨m4, ρ3, μ4, R4, T3.ext E4 Rd, ?_⟩
              dsimp only at hL
              cases qe : fe ρ3 μ4 with
              | fail => rw [qe] at hL; cases hL
              | exc _ _ _ => rw [qe] at hL; cases hL
              | ok t μ5 =>
                rw [qe] at hL
                intro m5 H5 v5 E5 R5 T5
                obtain ⟨u, E6, R6, D6⟩ := TC.mat E5 R5 T5
                have Eb : Ext m' H2 μ3 (m5 ++ u) H5 (mat t μ5).2 := Ea.trans E6
                have nD5 : D ∉ m5 ++ u := fun z => by
                  rw [Eb.new D z nD] at eD2; cases eD2
                have eD5 := Eb.oth D _ eD2 nD
                have hA5 := hA2.ext Eb Rd
                dsimp only at hL
                cases qr : lcGo gg fc fe (wip ρ own) (it.xs.drop (i + 1)) (mat t μ5).2 with
                | fail => rw [qr] at hL; cases hL
                | exc _ _ _ => rw [qr] at hL; cases hL
                | ok ds6 μ6 =>
                  rw [qr] at hL
                  cases hL
                  have hlen : acc.length < sizeLine := Nat.lt_of_le_of_lt hl (Nat.lt_of_lt_of_le hi (big_line hz))
                  -- the list at D has one more
                  have Rw2 : Rp K (m5 ++ u) (upd H5 D (.lst (vacc ++ [v5]))) (mat t μ5).2 := R6.other nD5 eD5
                  have hA6 : DsR K (m5 ++ u) (upd H5 D (.lst (vacc ++ [v5]))) (acc ++ [(mat t μ5).1]) (vacc ++ [v5]) :=
                    (hA5.append (.cons D6 .nil)).mono (fun _ _ e => e) (fun _ _ q => Mi.SqT.write eD5 q) (fun _ _ q => q.write eD5)
                  exact ⟨vacc, eD5, by rw [← hA5.length]; exact hlen, m5 ++ u, (mat t μ5).2, acc ++ [(mat t μ5).1], vacc ++ [v5], ds6, Ext.other RL (Ez.trans Eb) hD nD5, Rw2, nD5, upd_same, hA6, by simp; omega, qr, by rw [hds]; simp⟩
      · rw [List.drop_length] at hL
        unfold lcGo at hL
        cases hL
        rw [List.append_nil] at hds
        subst hds
        obtain ⟨Ef, Rf⟩ := unlock_ok I R1 E R
        refine P m' H' (.ref D) (E1.trans Ef) Rf ⟨⟨D, vacc, rfl, nD, eD, hA⟩, fun o p _ ep => ?_⟩
        cases ep
        exact E1.back R1 hD
/-- [elt for target in iter if ..] -/
theorem ev_lc {elt iter : Expr} {ifs : List Expr} {scope : Scope} {own : List (Str × Nat)} {g : TG} (hc : X.calm = true) (hN : X.N.Nodup) (hi : PI X tg iter (tI X.K C W fi)) (ok : BlkOk X.N X.env.scope scope own) (hgl : GLc X.K g gg (own.map (·.2)))
    (hg : ∀ (s : Shared) (H : Hp) (Ca : Addr) (cl : List (Str × Addr)) (fp : List Addr), PG (X.blk s H scope (compEnvC scope cl Ca X.env) fp) tg g)
    (ht : ∀ (s : Shared) (H : Hp) (Ca : Addr) (cl : List (Str × Addr)) (fp : List Addr), PTs (X.blk s H scope (compEnvC scope cl Ca X.env) fp) ifs (tT X.K C W0 fc))
    (he : ∀ (s : Shared) (H : Hp) (Ca : Addr) (cl : List (Str × Addr)) (fp : List Addr), PE (X.blk s H scope (compEnvC scope cl Ca X.env) fp) elt (tE X.K C W0 fe)) (hs : ∀ x, foldedSetIterable iter X.env x = pure x := by intro _; rfl) :
    PE X (.ListComp elt [⟨tg, iter, ifs, 0⟩] scope pos) (tE X.K C W (eLc (own.map (·.2)) gg fi fc fe)) :=
  PE.imp (pe_lc hc hN hi ok hg ht he hs) fun σ H Q h => lc_to hgl h
/-- name = [..] on one line -/
theorem sv_setLc (i : Nat) {y : Str} {py spos : Pos} {elt iter : Expr} {ifs : List Expr} {scope : Scope} {own : List (Str × Nat)} {g : TG} (hc : X.calm = true) (hN : X.N.Nodup) (hy : X.N[i]? = some y) (hyl : X.env.scope.names.lookup y = some .local)
    (hsw : swapsWith (.ListComp elt [⟨tg, iter, ifs, 0⟩] scope pos) (some (.Name y py)) spos.line X.env = pure true) (hi : PI X tg iter (tI X.K C W fi)) (ok : BlkOk X.N X.env.scope scope own) (hgl : GLc X.K g gg (own.map (·.2)))
    (hg : ∀ (s : Shared) (H : Hp) (Ca : Addr) (cl : List (Str × Addr)) (fp : List Addr), PG (X.blk s H scope (compEnvC scope cl Ca X.env) fp) tg g)
    (ht : ∀ (s : Shared) (H : Hp) (Ca : Addr) (cl : List (Str × Addr)) (fp : List Addr), PTs (X.blk s H scope (compEnvC scope cl Ca X.env) fp) ifs (tT X.K C W0 fc))
    (he : ∀ (s : Shared) (H : Hp) (Ca : Addr) (cl : List (Str × Addr)) (fp : List Addr), PE (X.blk s H scope (compEnvC scope cl Ca X.env) fp) elt (tE X.K C W0 fe)) (hs : ∀ x, foldedSetIterable iter X.env x = pure x := by intro _; rfl) :
    PS X (.Assign [.Name y py] (.ListComp elt [⟨tg, iter, ifs, 0⟩] scope pos) spos) (tS X.K C W (sAsg (gN i) (eLc (own.map (·.2)) gg fi fc fe))) := by
  refine PS.imp (ps_setLc hc hN hy hyl hsw hi ok hg ht he hs) fun D σ H h => ?_
  have key : tE X.K C W (eLc (own.map (·.2)) gg fi fc fe) σ H fun x H1 => gName i x σ H1 D.nx := by
    obtain ⟨m, ρ, μ, R0, E0, P⟩ := h
    refine ⟨m, ρ, μ, R0, E0, (Post.toS R0 E0 P).mono fun v H1 ⟨m1, μ1, t, E, R1, T1, P0, P1⟩ => ?_⟩
    obtain ⟨u, E2, R2', D2⟩ := TC.mat E R1 T1
    exact (PostS.step E2 R2' P0) _ _ _ .refl R2' ((E0.ext E2 R0).set D2)
  exact lc_to hgl key
end
end Mi
end
section
set_option Elab.async false
set_option linter.all false
set_option maxRecDepth 100000
set_option maxHeartbeats 1000000
/-! MiJ: defs. -/
namespace Mi
open PySem PySem.Spec PyProof.Rows L2
section
variable {P : Program} {w : World} {K : PySem.W.Frag} {mg : Str → Option Value} {base : Heap} {C : CT} {W : WX} {m m1 m' : List Addr} {H H1 H' : Hp} {μ μ1 μ' : Hq}
mutual
theorem DR.any : ∀ {d : D} {v : V}, d.pure = true → DR K m H d v → DR K m' H d v
  | .non, _, _, h => by unfold DR at h ⊢; exact h
  | .bl _, _, _, h => by unfold DR at h ⊢; exact h
  | .int _, _, _, h => by unfold DR at h ⊢; exact h
  | .str _, _, _, h => by unfold DR at h ⊢; exact h
  | .tup ds, _, p, h => by
    unfold DR at h ⊢
    unfold D.pure at p
    obtain ⟨a, vs, e, h1, h2⟩ := h
    exact ⟨a, vs, e, h1, DsR.any p h2⟩
  | .fl ds, _, p, h => by
    unfold DR at h ⊢
    unfold D.pure at p
    obtain ⟨a, vs, e, h1, h2⟩ := h
    exact ⟨a, vs, e, h1, DsR.any p h2⟩
  | .ref r, _, p, h => by unfold D.pure at p; cases p
theorem DsR.any : ∀ {ds : List D} {vs : List V}, D.pures ds = true → DsR K m H ds vs → DsR K m' H ds vs
  | [], _, _, h => by unfold DsR at h ⊢; exact h
  | d :: ds, _, p, h => by
    unfold DsR at h ⊢
    unfold D.pures at p
    rw [Bool.and_eq_true] at p
    obtain ⟨v, t, e, h1, h2⟩ := h
    exact ⟨v, t, e, DR.any p.1 h1, DsR.any p.2 h2⟩
end
theorem Rp.nil : Rp K [] H [] := ⟨rfl, List.nodup_nil, fun r a o e _ => by simp at e⟩
/-- a call that ran alone leaves the caller's small heap as it is -/
theorem Ext.alone (R : Rp K m H μ) (E : Ext [] H [] m1 H1 μ1) : Ext m H μ m H1 μ ∧ Rp K m H1 μ := by
  have ht : ∀ a vs, SqT K H a vs → SqT K H1 a vs := fun a vs q => Mi.SqT.ext E Rp.nil q
  have hf : ∀ a vs, FzL K H a vs → FzL K H1 a vs := fun a vs q => q.ext E Rp.nil
  have he : ∀ (r : Nat) (a : Addr), m[r]? = some a → H1 a = H a := fun r a e => by
    obtain ⟨ys, q⟩ := R.mem (List.mem_of_getElem? e)
    rw [q]; exact E.oth a _ q (by simp)
  exact ⟨⟨⟨[], by simp⟩, fun b o e _ => E.oth b o e (by simp), fun b hb n => absurd hb n, fun r a xs e1 e2 => ⟨e2, he r a e1⟩⟩,
    ⟨R.len, R.nd, fun r a o e1 e2 => OR.mono (fun _ _ e => e) ht hf (he r a e1) (R.ob r a o e1 e2)⟩⟩
theorem slots_Re {N : List Str} {ds : List D} {vs : List V} (h : DsR K m H ds vs) (hl : ds.length ≤ N.length) : Re K m (L2.start N vs) H (slots N.length ds) := by
  have hlen := h.length
  refine ⟨by unfold slots L2.start; simp [hlen], fun i d e => ?_⟩
  unfold slots at e
  unfold L2.start
  by_cases hi : i < ds.length
  · rw [List.getElem?_append_left (by simpa using hi), List.getElem?_map] at e
    cases q : ds[i]? with
    | none => rw [q] at e; cases e
    | some d' =>
      rw [q] at e; cases e
      obtain ⟨v, e1, e2⟩ := h.get q
      exact ⟨v, by rw [List.getElem?_append_left (by simp; omega), List.getElem?_map, e1]; rfl, e2⟩
  · rw [List.getElem?_append_right (by simpa using hi), List.getElem?_replicate] at e
    split at e <;> cases e
/-- THE END of a def: its body's reading at its combinator keeps the promise -/
theorem fn_ok {tab : List FD} {i k : Nat} {fdv : FD} {x qual : Str} {st : Stmt} {f : Addr} {fd : FuncData} {N ps : List Str} (F : Fun K x qual st f fd) (S : FnScope N ps (defScope st)) (hi : tab[i]? = some fdv) (hnp : fdv.np = ps.length) (hnn : fdv.nn = N.length)
    (hbody : ∀ (cdv : Value) (A : Around) (outer : List Env) (s : Shared) (H : Hp) (E : XK), Room k (A.deeper (envOfC qual (defScope st) s.heap.objs.size f cdv)) →
      PSs (cxOf (L2.CX P w) P w K mg base N qual (defScope st) f cdv A outer s H E) (defBody st) (tS K C (fun c d _ H => E c d H) (fdv.body (callF tab k)))) :
    FnOk P w K mg base (L2.CX P w) (k + 1) f fd ps (spG K C (callF tab (k + 1) i)) := by
  have hps : ps.length ≤ N.length := by
    have := congrArg List.length S.pre
    rw [List.length_take] at this; omega
  have hcall : ∀ ds μ, callF tab (k + 1) i ds μ = if ds.length = fdv.np then (if D.pures ds then alone μ (enter fdv (callF tab k) ds []) else enter fdv (callF tab k) ds μ) else .fail := fun ds μ => by
    show (match tab[i]? with | some fd => _ | none => _) = _
    rw [hi]
  refine Fun.okX F S (fun vs H Q E h => ?_) (fun cdv A outer s H vs Q E hr h => ?_)
  · obtain ⟨m, μ, ds, R, D0, P0⟩ := h
    rw [hcall] at P0
    by_cases hl : ds.length = fdv.np
    · rw [← D0.length, hl, hnp]
    · rw [if_neg hl] at P0; exact P0.elim
  · obtain ⟨m, μ, ds, R, D0, P0⟩ := h
    rw [hcall] at P0
    by_cases hl : ds.length = fdv.np
    · rw [if_pos hl] at P0
      refine ⟨_, hbody cdv A outer s H E hr, ?_⟩
      by_cases hp : D.pures ds = true
      · rw [if_pos hp] at P0
        refine ⟨[], slots fdv.nn ds, [], Rp.nil, by rw [hnn]; exact slots_Re (D0.any hp) (by omega), ?_⟩
        unfold enter at P0
        cases q : fdv.body (callF tab k) (slots fdv.nn ds) [] with
        | fail => rw [q] at P0; exact P0
        | exc c p ρ1 μ1 =>
          rw [q] at P0
          intro m1 H1 σ1 dx E1 R1 _ pr
          have P0 : Post (TR K) K C E m H μ (if p.pure = true then .exc c p μ else .fail) Q := P0
          obtain ⟨Ea, Ra⟩ := Ext.alone R E1
          by_cases hpp : p.pure = true
          · rw [if_pos hpp] at P0
            refine P0 m H1 dx Ea Ra ?_
            rcases pr with pr | ⟨a, v, e1, e2, e3⟩
            · exact .inl pr
            · exact .inr ⟨a, v, e1, e2, e3.any hpp⟩
          · rw [if_neg hpp] at P0; exact P0.elim
        | ok fl ρ1 μ1 =>
          rw [q] at P0
          cases fl with
          | bk => exact P0.elim
          | ct => exact P0.elim
          | nx =>
            intro m1 H1 σ1 E1 R1 _
            obtain ⟨Ea, Ra⟩ := Ext.alone R E1
            exact P0 m H1 .non Ea Ra non_TR
          | rt t =>
            intro m1 H1 v E1 R1 T1
            obtain ⟨Ea, Ra⟩ := Ext.alone R E1
            have fin : ∀ (o : Ob) (a : Addr), o.pure = true → OR K m1 H1 a o → v = .ref a → H a = none → Post (TR K) K C E m H μ (.ok (.new o) μ) Q → Q v H1 := fun o a hpo ho ev hn P1 => by
              cases o with
              | lst xs =>
                obtain ⟨vs, e1, e2⟩ := ho
                exact P1 m H1 v Ea Ra ⟨⟨a, vs, ev, R.fresh hn, e1, e2.any hpo⟩, fun o b _ eb => by rw [ev] at eb; cases eb; exact hn⟩
              | fz _ => cases hpo
              | dic _ => cases hpo
              | fd _ => cases hpo
            have P0 : Post (TR K) K C E m H μ (alone μ (.ok t μ1)) Q := P0
            have hval : ∀ d : D, t = .val d → Post (TR K) K C E m H μ (if d.pure = true then .ok (.val d) μ else .fail) Q → Q v H1 := fun d et P1 => by
              subst et
              by_cases hpd : d.pure = true
              · rw [if_pos hpd] at P1
                exact P1 m H1 v Ea Ra (TR.val (DR.any hpd T1.1))
              · rw [if_neg hpd] at P1; exact P1.elim
            cases t with
            | new o =>
              have P1 : Post (TR K) K C E m H μ (if o.pure = true then .ok (.new o) μ else .fail) Q := P0
              by_cases hpo : o.pure = true
              · rw [if_pos hpo] at P1
                cases o with
                | lst xs =>
                  obtain ⟨⟨a, vs, ev, nm, e1, e2⟩, fr⟩ := T1
                  exact fin _ a hpo ⟨vs, e1, e2⟩ ev (fr _ a rfl ev) P1
                | fz _ => cases hpo
                | dic _ => cases hpo
                | fd _ => cases hpo
              · rw [if_neg hpo] at P1; exact P1.elim
            | val d =>
              cases d with
              | ref r =>
                have P1 : Post (TR K) K C E m H μ (match μ1[r]? with | some o => if o.pure then .ok (.new o) μ else .fail | none => .fail) Q := P0
                have T2 : DR K m1 H1 (.ref r) v := T1.1
                unfold DR at T2
                obtain ⟨a, ev, hr1⟩ := T2
                cases ho : μ1[r]? with
                | none => rw [ho] at P1; exact P1.elim
                | some o =>
                  rw [ho] at P1
                  dsimp only at P1
                  by_cases hpo : o.pure = true
                  · rw [if_pos hpo] at P1
                    exact fin o a hpo (R1.ob r a o hr1 ho) ev (E1.new a (List.mem_of_getElem? hr1) (by simp)) P1
                  · rw [if_neg hpo] at P1; exact P1.elim
              | non => exact hval _ rfl P0
              | bl b => exact hval _ rfl P0
              | int i => exact hval _ rfl P0
              | str s => exact hval _ rfl P0
              | tup xs => exact hval _ rfl P0
              | fl xs => exact hval _ rfl P0
      · rw [if_neg hp] at P0
        refine ⟨m, slots fdv.nn ds, μ, R, by rw [hnn]; exact slots_Re D0 (by omega), ?_⟩
        unfold enter at P0
        cases q : fdv.body (callF tab k) (slots fdv.nn ds) μ with
        | fail => rw [q] at P0; exact P0
        | exc c p ρ1 μ1 =>
          rw [q] at P0
          exact fun m1 H1 σ1 dx E1 R1 _ pr => P0 m1 H1 dx E1 R1 pr
        | ok fl ρ1 μ1 =>
          rw [q] at P0
          cases fl with
          | bk => exact P0.elim
          | ct => exact P0.elim
          | nx => exact fun m1 H1 σ1 E1 R1 _ => P0 m1 H1 .non E1 R1 non_TR
          | rt t => exact fun m1 H1 v E1 R1 T1 => P0 m1 H1 v E1 R1 T1
    · rw [if_neg hl] at P0; exact P0.elim
end
end Mi
end
section
set_option Elab.async false
set_option linter.all false
set_option maxRecDepth 100000
set_option maxHeartbeats 1000000
/-! MiK: zip, op=, chains, items stored. -/
namespace Mi
open PySem PySem.Spec PyProof.Rows L2
section
variable {X : Cx} {C : CT} {W : WX} {a b c e tg : Expr} {fa fb fe : EF} {fc : TF} {es rest : List Expr} {as : AF} {pos : Pos} {m m1 m' : List Addr} {H H1 H' : Hp} {μ μ1 μ' : Hq} {K : PySem.W.Frag} {f : SF} {gg : GF} {fi : IF} {bod : List Stmt}
theorem walk_zipT {p q : Addr} {xs ys : List V} {n : Nat} (hn : n = min xs.length ys.length) : Walk (RZ.ItzT K p q) n (fun H => SqT K H p xs ∧ SqT K H q ys) (YPair (fun i => xs[i]?) (fun i => ys[i]?)) := by
  subst hn
  refine ⟨fun i _ hi q => ?_, fun _ q => ⟨xs, ys, q.1, q.2, by omega⟩, fun i H v H' _ q y => ?_⟩
  · have h1 : i < xs.length := by omega
    have h2 : i < ys.length := by omega
    exact ⟨xs, ys, xs[i], ys[i], q.1, q.2, by simp [h1], by simp [h2]⟩
  · obtain ⟨T, x, z, h1, h2, h3, h4, h5⟩ := y
    exact ⟨T, x, z, h1, h2, h3, h4 xs q.1, h5 ys q.2⟩
theorem zipD_len : ∀ (xs ys : List D), (zipD xs ys).length = min xs.length ys.length
  | [], _ => by simp [zipD]
  | _ :: _, [] => by simp [zipD]
  | x :: xs, y :: ys => by
    show (zipD xs ys).length + 1 = _
    rw [zipD_len xs ys]
    simp only [List.length_cons]
    omega
theorem zipD_get : ∀ (xs ys : List D) (i : Nat) (x y : D), xs[i]? = some x → ys[i]? = some y → (zipD xs ys)[i]? = some (.tup [x, y])
  | [], _, _, _, _, h, _ => by simp at h
  | _ :: _, [], _, _, _, _, h => by simp at h
  | x :: xs, y :: ys, 0, a, b, h, g => by simp at h g; subst h; subst g; rfl
  | x :: xs, y :: ys, i + 1, a, b, h, g => zipD_get xs ys i a b (by simpa using h) (by simpa using g)
theorem itr_zip {xs ys : List D} {p q : Addr} {vs ws : List V} (R : Rp K m H μ) (h1 : SqT K H p vs) (h2 : DsR K m H xs vs) (g1 : SqT K H q ws) (g2 : DsR K m H ys ws) : ItR K m H μ ⟨zipD xs ys, none⟩ (RZ.ItzT K p q) := by
  refine ⟨fun r e => (nomatch e), (fun H => SqT K H p vs ∧ SqT K H q ws), YPair (fun i => vs[i]?) (fun i => ws[i]?), ?_, fun m' H' μ' E R' => ⟨Mi.SqT.ext E R h1, Mi.SqT.ext E R g1⟩, fun i x m1 H1 μ1 H2 hi E R1 y => ?_⟩
  · exact walk_zipT (by show (zipD xs ys).length = _; rw [zipD_len, h2.length, g2.length])
  · obtain ⟨T, v, w, rfl, hT, rfl, e1, e2⟩ := y
    obtain ⟨d1, q1, r1⟩ := (h2.ext E R).getV e1
    obtain ⟨d2, q2, r2⟩ := (g2.ext E R).getV e2
    have Ex : Ext m1 H1 μ1 m1 (upd H1 T (.tup [v, w])) μ1 := Ext.laid R1 hT
    refine ⟨_, zipD_get xs ys i d1 d2 q1 q2, Ex, R1.laid hT, ?_⟩
    unfold DR
    exact ⟨T, _, rfl, .inl (.inl upd_same), .cons (r1.ext Ex R1) (.cons (r2.ext Ex R1) .nil)⟩
theorem iv_zip {p tpos : Pos} {elts : List Expr} {kk : Nat} (hg : Gl X "zip") (hm : X.mg "zip" = none) (ha : PE X a (tE X.K C W fa)) (hb : PE X b (tE X.K C W fb)) (hs1 : starEach [b] X.env = (false, eval b X.env) :: starEach [] X.env := by rfl) (hs : starEach [a, b] X.env = (false, eval a X.env) :: starEach [b] X.env := by rfl) (hpl : (backTo pos (starEach [b] X.env)).any (·.1) = false := by rfl) :
    PI X (.Tuple elts kk tpos) (.Call (.Name "zip" p) [a, b] [] pos) (tI X.K C W (iZip fa fb)) := by
  refine PI.imp (RZ.pi_zipA hg hm (pa_cons ha (pa_cons hb pa_nil hs1) hs) hs hpl) fun σ H Q h => ?_
  obtain ⟨m, ρ, μ, R0, E0, P⟩ := h
  refine ⟨m, ρ, μ, R0, E0, (PostI.bind P).mono fun v H1 ⟨m1, μ1, t, E, R1, T1, P1⟩ => ?_⟩
  refine ⟨m1, ρ, μ1, R1, E0.ext E R0, (PostI.bind P1).mono fun w H2 ⟨m2, μ2, t2, F, R2', T2, P2⟩ => ?_⟩
  have e1 := T1.1.ext F R1
  have e2 := T2.1
  clear T1 T2
  split at P2
  · obtain ⟨p, vs, rfl, h1, h2⟩ := tup_TC e1
    obtain ⟨q, ws, rfl, g1, g2⟩ := tup_TC e2
    exact ⟨p, q, vs, ws, rfl, .inr ⟨h1, g1, PostI.ok R2' P2 (itr_zip R2' h1 h2 g1 g2)⟩⟩
  · exact P2.elim
/-! ### isinstance -/
theorem ev_isi {p p2 : Pos} {x : Str} {t : Ty} (ha : PE X a (tE X.K C W fa)) (hg : Gl X "isinstance") (hm : X.mg "isinstance" = none) (hg2 : Gl X x) (hm2 : X.mg x = none) (hv2 : bootBuiltins x = some (.type t.name)) (hn2 : x ≠ "__name__" := by decide) (hd2 : (x == ("__debug__" : Str)) = false := by decide)
    (hs1 : starEach [(.Name x p2 : Expr)] X.env = (false, eval (.Name x p2) X.env) :: starEach [] X.env := by rfl) (hs : starEach [a, .Name x p2] X.env = (false, eval a X.env) :: starEach [.Name x p2] X.env := by rfl) (hpl : (backTo pos (starEach [(.Name x p2 : Expr)] X.env)).any (·.1) = false := by rfl) :
    PE X (.Call (.Name "isinstance" p) [a, .Name x p2] [] pos) (tE X.K C W (e1 (opIsi t) fa)) := by
  refine PE.imp (pe_callB call_isi hg hm (by decide +kernel) (pa_cons ha (pa_cons (pe_bltn (v := .ty t.name) hg2 hm2 hv2 rfl hn2 hd2) pa_nil hs1) hs) (by decide) (by decide) hs hpl) fun σ H Q h => ?_
  exact e1_to (o_isi (t := t)) h
/-! ### subscripts -/
theorem ev_ix (ha : PE X a (tE X.K C W fa)) (hb : PE X b (tE X.K C W fb)) (hs : PlainIx b) : PE X (.Subscript a b pos) (tE X.K C W (e2 opIx fa fb)) := PE.imp (pe_ix ix_seq ha hb hs) fun _ _ _ h => e2_to o_ix h
/-! ### op= -/
theorem sv_aug (i : Nat) {x : Str} {o : Operator} {op : O2} {ti : TIp} {pos' : Pos} (hN : X.N.Nodup) (hi : X.N[i]? = some x) (hx : Loc X.env.scope x) (he : PE X e (tE X.K C W fe)) (ho : PIp X o ti) (hop : Op2 X.K op ti)
    (hf : X.fn x = true ∨ X.env.scope.names.lookup x = some .local := by first | exact .inl rfl | exact .inr rfl | assumption) : PS X (.AugAssign (.Name x pos') o e pos) (tS X.K C W (sAug i op fe)) := PS.imp (ps_aug hN hi hx he ho hf) fun D σ H h => by
  obtain ⟨m, ρ, μ, R0, E0, P⟩ := h
  unfold sAug at P
  cases q : ρ[i]? with
  | none => rw [q] at P; exact P.elim
  | some o' =>
    cases o' with
    | none => rw [q] at P; exact P.elim
    | some d =>
      rw [q] at P
      obtain ⟨v, e1, e2⟩ := E0.at_ i d q
      refine ⟨v, e1, m, ρ, μ, R0, E0, (Post.toS (rel := TR X.K) R0 E0 P).mono fun w H1 ⟨m1, μ1, y, E, R1, T1, P0, P1⟩ => ?_⟩
      refine hop C (fun c d H => W c d σ H) m1 H1 μ1 (.val d) y v w _ R1 (e2.ext E R0) T1.1 ?_
      have E1 := E0.ext E R0
      refine (Post.toS (rel := TR X.K) R1 E1 P1).mono fun z H2 ⟨m2, μ2, t, F, R2', T2, P20, P2⟩ => ?_
      obtain ⟨u, F2, R3, D3⟩ := TC.mat F R2' T2
      exact (PostS.step F2 R3 P20) _ _ _ .refl R3 ((E1.ext F2 R1).set D3)
theorem o_addI : Op2 K opAddI (ipI fun i j => i + j) := by
  intro C W m H μ x y v1 v2 Q R T1 T2 P
  unfold opAddI at P
  split at P
  · exact ⟨_, _, int_TC T1, int_TC T2, Post.ok R P int_TR⟩
  · exact P.elim
theorem o_subI : Op2 K opSub (ipI fun i j => i - j) := o_sub
end
end Mi
end
section
set_option Elab.async false
set_option linter.all false
set_option maxRecDepth 100000
set_option maxHeartbeats 1000000
/-! MiL: the script, names of built-ins, the law's end. -/
namespace Mi
open PySem PySem.Spec PyProof.Rows L2
theorem fz_script {K : PySem.W.Frag} {H : Hp} {a : Addr} {vs : List V} (ho : Only H) (h : SqL K H a vs) : FzL K H a vs := fun H' k => by
  rcases h with (h | ⟨o, h⟩) | h
  · rcases ho a with e | ⟨o, xs, e⟩ <;> rw [h] at e <;> cases e
  · exact .inl (.inr ⟨o, k _ _ _ h⟩)
  · exact .inr h
theorem ints_DsR {K : PySem.W.Frag} {m : List Addr} {H : Hp} : ∀ ns : List Int, DsR K m H (ns.map D.int) (ns.map V.int)
  | [] => .nil
  | n :: ns => .cons (by unfold DR; rfl) (ints_DsR ns)
/-- the law's call: what the combinator says of each script is what is asked -/
theorem sp_law {K : PySem.W.Frag} {C : CT} {g : List D → Hq → R Tv} {H : Hp} {a : Addr} {ns : List Int} (ho : Only H) (h : SqL K H a (ns.map V.int)) (hg : ∃ μ, g [.fl (ns.map .int)] [] = .ok (.val (.bl true)) μ) :
    spG K C g [.ref a] H (fun v _ => v = .bl true) fun _ _ _ => False := by
  obtain ⟨μ, e⟩ := hg
  refine ⟨[], [], [.fl (ns.map .int)], Rp.nil, .cons ?_ .nil, ?_⟩
  · unfold DR
    exact ⟨a, _, rfl, fz_script ho h, ints_DsR ns⟩
  · rw [e]
    exact fun m' H' v _ _ T => bl_TC T.1
theorem cx_false {P : Program} {w : World} {H : Hp} {s : Shared} {e : Value} {s' : Shared} (h : L2.CX P w [] H s (fun _ _ _ => False) e s') : False := by
  obtain ⟨_, _, _, _, _, _, _, _, _, _, _, _, z⟩ := h
  exact z
theorem bt_abs : bootBuiltins "abs" = some (.builtin "abs") := by decide +kernel
theorem bt_all : bootBuiltins "all" = some (.builtin "all") := by decide +kernel
theorem bt_any : bootBuiltins "any" = some (.builtin "any") := by decide +kernel
theorem bt_sum : bootBuiltins "sum" = some (.builtin "sum") := by decide +kernel
theorem bt_len : bootBuiltins "len" = some (.builtin "len") := by decide +kernel
theorem bt_int : bootBuiltins "int" = some (.type "int") := by decide +kernel
theorem bt_bool : bootBuiltins "bool" = some (.type "bool") := by decide +kernel
theorem bt_str : bootBuiltins "str" = some (.type "str") := by decide +kernel
theorem bt_tuple : bootBuiltins "tuple" = some (.type "tuple") := by decide +kernel
theorem bt_list : bootBuiltins "list" = some (.type "list") := by decide +kernel
theorem bt_dict : bootBuiltins "dict" = some (.type "dict") := by decide +kernel
theorem hu64 {k : Nat} {A : Around} (r : Room k A) : A.units + 64 < cLine := r.units
/-- a def that is called -/
theorem fk_of {P : Program} {w : World} {K : PySem.W.Frag} {mg : Str → Option Value} {base : Heap} {C : CT} {n i : Nat} {cf : CF} {x qual : Str} {st : Stmt} {f : Addr} {fd : FuncData} {ps : List Str} (F : Fun K x qual st f fd) (hm : mg x = some (.ref f)) (hb : Binds K fd ps [])
    (h : FnOk P w K mg base (L2.CX P w) n f fd ps (spG K C (cf i))) : Fk P w K mg base C n cf i x := ⟨⟨f, fd, ps, h, hm, F.kp, hb⟩⟩
theorem fn_zero {P : Program} {w : World} {K : PySem.W.Frag} {mg : Str → Option Value} {base : Heap} {C : CT} {tab : List FD} {i : Nat} {f : Addr} {fd : FuncData} {ps : List Str} : FnOk P w K mg base (L2.CX P w) 0 f fd ps (spG K C (callF tab 0 i)) :=
  ⟨fun vs H Q E h => by obtain ⟨m, μ, ds, _, _, z⟩ := h; exact z.elim, fun A outer s H args us vs Q E _ _ _ _ h => by obtain ⟨m, μ, ds, _, _, z⟩ := h; exact z.elim⟩
end Mi
end
section
set_option linter.all false
set_option maxRecDepth 100000
set_option maxHeartbeats 1000000
/-! MiS: reckoning with combinators, plain Lean. -/
namespace Mi
open PySem
@[simp] theorem bind_ok {α β : Type} (a : α) (μ : Hq) (f : α → Hq → R β) : (R.ok a μ).bind f = f a μ := rfl
@[simp] theorem toS_ok {α : Type} (a : α) (μ : Hq) (ρ : Ev) (f : α → Hq → RS) : (R.ok a μ).toS ρ f = f a μ := rfl
theorem pures_ints : ∀ xs : List Int, D.pures (xs.map .int) = true
  | [] => by unfold D.pures; rfl
  | x :: xs => by
    show (D.pure (.int x) && D.pures (xs.map .int)) = true
    rw [pures_ints xs]; rfl
theorem bls_map : ∀ bs : List Bool, bls (bs.map .bl) = some bs
  | [] => rfl
  | b :: bs => by show (match bls (bs.map .bl) with | some bs => some (b :: bs) | none => none) = _; rw [bls_map bs]
theorem nums_map : ∀ bs : List Int, nums (bs.map .int) = some bs
  | [] => rfl
  | b :: bs => by show (match nums (bs.map .int) with | some bs => some (b :: bs) | none => none) = _; rw [nums_map bs]
/-- a comprehension whose turns leave the small heap as it is -/
theorem lcGo_map {g : GF} {e : EF} {ρ : Ev} {μ : Hq} (F : D → D) : ∀ xs : List D, (∀ x ∈ xs, ∃ ρ1, g x ρ μ = .ok ρ1 μ ∧ e ρ1 μ = .ok (.val (F x)) μ) → lcGo g tYs e ρ xs μ = .ok (xs.map F) μ
  | [], _ => rfl
  | x :: xs, h => by
    obtain ⟨ρ1, h1, h2⟩ := h x List.mem_cons_self
    have ih := lcGo_map F xs fun y hy => h y (List.mem_cons_of_mem _ hy)
    unfold lcGo
    rw [h1]
    show (match e ρ1 μ with | _ => _) = _
    simp only [tYs, h2, mat, ih, List.map_cons]
theorem lcGo_of {α : Type} {g : GF} {e : EF} {ρ : Ev} {μ : Hq} (I F : α → D) (xs : List α) (h : ∀ x ∈ xs, ∃ ρ1, g (I x) ρ μ = .ok ρ1 μ ∧ e ρ1 μ = .ok (.val (F x)) μ) : lcGo g tYs e ρ (xs.map I) μ = .ok (xs.map F) μ := by
  induction xs with
  | nil => rfl
  | cons x xs ih =>
    obtain ⟨ρ1, h1, h2⟩ := h x List.mem_cons_self
    have ih := ih fun y hy => h y (List.mem_cons_of_mem _ hy)
    rw [List.map_cons]
    unfold lcGo
    rw [h1]
    show (match e ρ1 μ with | _ => _) = _
    simp only [tYs, h2, mat, ih, List.map_cons]
theorem bls_of {α : Type} (F : α → Bool) (xs : List α) : bls (xs.map fun x => D.bl (F x)) = some (xs.map F) := by
  rw [show (xs.map fun x => D.bl (F x)) = (xs.map F).map D.bl by simp]
  exact bls_map _
/-- a call of values that ends with a value -/
theorem call_val {tab : List FD} {n f : Nat} {ds : List D} {μ : Hq} {fd : FD} {d : D} {ρ' : Ev} {μ' : Hq} (h1 : tab[f]? = some fd) (h2 : ds.length = fd.np) (h3 : D.pures ds = true) (h4 : D.pure d = true)
    (hb : fd.body (callF tab n) (slots fd.nn ds) [] = .ok (.rt (.val d)) ρ' μ') : callF tab (n + 1) f ds μ = .ok (.val d) μ := by
  show (match tab[f]? with | some fd => _ | none => _) = _
  rw [h1]
  show (if ds.length = fd.np then (if D.pures ds then alone μ (enter fd (callF tab n) ds []) else enter fd (callF tab n) ds μ) else .fail) = _
  rw [if_pos h2, if_pos h3]
  unfold enter
  rw [hb]
  cases d with
  | ref r => unfold D.pure at h4; cases h4
  | non => rfl
  | bl b => rfl
  | int i => rfl
  | str s => rfl
  | tup xs => show (if _ then _ else _) = _; rw [if_pos h4]
  | fl xs => show (if _ then _ else _) = _; rw [if_pos h4]
/-- .. that falls off its end -/
theorem call_non {tab : List FD} {n f : Nat} {ds : List D} {μ : Hq} {fd : FD} {ρ' : Ev} {μ' : Hq} (h1 : tab[f]? = some fd) (h2 : ds.length = fd.np) (h3 : D.pures ds = true)
    (hb : fd.body (callF tab n) (slots fd.nn ds) [] = .ok .nx ρ' μ') : callF tab (n + 1) f ds μ = .ok (.val .non) μ := by
  show (match tab[f]? with | some fd => _ | none => _) = _
  rw [h1]
  show (if ds.length = fd.np then (if D.pures ds then alone μ (enter fd (callF tab n) ds []) else enter fd (callF tab n) ds μ) else .fail) = _
  rw [if_pos h2, if_pos h3]
  unfold enter
  rw [hb]
  rfl
/-- .. with a new list -/
theorem call_new {tab : List FD} {n f : Nat} {ds : List D} {μ : Hq} {fd : FD} {xs : List D} {ρ' : Ev} {μ' : Hq} (h1 : tab[f]? = some fd) (h2 : ds.length = fd.np) (h3 : D.pures ds = true) (h4 : D.pures xs = true)
    (hb : fd.body (callF tab n) (slots fd.nn ds) [] = .ok (.rt (.new (.lst xs))) ρ' μ') : callF tab (n + 1) f ds μ = .ok (.new (.lst xs)) μ := by
  show (match tab[f]? with | some fd => _ | none => _) = _
  rw [h1]
  show (if ds.length = fd.np then (if D.pures ds then alone μ (enter fd (callF tab n) ds []) else enter fd (callF tab n) ds μ) else .fail) = _
  rw [if_pos h2, if_pos h3]
  unfold enter
  rw [hb]
  show (if Ob.pure (.lst xs) = true then _ else _) = _
  exact if_pos h4
theorem rangeD_map : ∀ (n : Nat) (lo : Int), rangeD lo n = (List.range n).map fun k => D.int (lo + (k : Nat))
  | 0, _ => rfl
  | n + 1, lo => by
    rw [List.range_succ_eq_map]
    show D.int lo :: rangeD (lo + 1) n = _
    rw [rangeD_map n (lo + 1)]
    simp only [List.map_cons, List.map_map]
    congr 1
    · simp
    · apply List.map_congr_left
      intro k _
      simp only [Function.comp]
      congr 1
      omega

/-! ### rules of reckoning -/
section
variable {α : Type} {a b e : EF} {c d : TF} {as : AF} {ρ ρ1 ρ2 : Ev} {μ μ1 μ2 μ3 : Hq} {x y : Tv} {v w : D} {ds : List D} {r : R Tv} {op : O2} {o1 : O1} {k : Bool} {s t : SF} {q : RS}
theorem q2 (h1 : a ρ μ = .ok x μ1) (h2 : b ρ μ1 = .ok y μ2) (h3 : op x y μ2 = r) : e2 op a b ρ μ = r := by unfold e2; rw [h1, bind_ok, h2, bind_ok]; exact h3
theorem q1 (h1 : a ρ μ = .ok x μ1) (h3 : o1 x μ1 = r) : e1 o1 a ρ μ = r := by unfold e1; rw [h1, bind_ok]; exact h3
theorem qn : aNil ρ μ = .ok [] μ := rfl
theorem qa (h1 : e ρ μ = .ok (.val v) μ1) (h2 : as ρ μ1 = .ok ds μ2) : aCons e as ρ μ = .ok (v :: ds) μ2 := by
  unfold aCons; rw [h1, bind_ok]
  show ((as ρ μ1).bind fun ds μ2 => .ok (v :: ds) μ2) = _
  rw [h2]; rfl
theorem qc {cf : CF} {f : Nat} (h1 : as ρ μ = .ok ds μ1) (h2 : cf f ds μ1 = r) : eCall cf f as ρ μ = r := by unfold eCall; rw [h1, bind_ok]; exact h2
theorem qtup (h1 : as ρ μ = .ok ds μ1) (hl : ds.length ≤ 1000000) : eTup as ρ μ = .ok (.val (.tup ds)) μ1 := by unfold eTup cap; rw [h1, bind_ok, if_pos hl]
theorem qlst (h1 : as ρ μ = .ok ds μ1) (hl : ds.length ≤ 1000000) : eLst as ρ μ = .ok (.new (.lst ds)) μ1 := by unfold eLst cap; rw [h1, bind_ok, if_pos hl]
theorem qand1 (h1 : a ρ μ = .ok x μ1) (h2 : tru μ1 x = some true) (h3 : b ρ μ1 = r) : eAnd a b ρ μ = r := by unfold eAnd; rw [h1, bind_ok, h2]; exact h3
theorem qand0 (h1 : a ρ μ = .ok x μ1) (h2 : tru μ1 x = some false) : eAnd a b ρ μ = .ok x μ1 := by unfold eAnd; rw [h1, bind_ok, h2]
theorem qor1 (h1 : a ρ μ = .ok x μ1) (h2 : tru μ1 x = some true) : eOr a b ρ μ = .ok x μ1 := by unfold eOr; rw [h1, bind_ok, h2]
theorem qor0 (h1 : a ρ μ = .ok x μ1) (h2 : tru μ1 x = some false) (h3 : b ρ μ1 = r) : eOr a b ρ μ = r := by unfold eOr; rw [h1, bind_ok, h2]; exact h3
theorem qnot (h1 : a ρ μ = .ok x μ1) (h2 : tru μ1 x = some k) : eNot a ρ μ = .ok (vb (!k)) μ1 := by unfold eNot; rw [h1, bind_ok, h2]
theorem qif1 (h1 : c ρ μ = .ok true μ1) (h2 : a ρ μ1 = r) : eIf c a b ρ μ = r := by unfold eIf; rw [h1, bind_ok]; exact h2
theorem qif0 (h1 : c ρ μ = .ok false μ1) (h2 : b ρ μ1 = r) : eIf c a b ρ μ = r := by unfold eIf; rw [h1, bind_ok]; exact h2
theorem tv (h1 : e ρ μ = .ok x μ1) (h2 : tru μ1 x = some k) : tV e ρ μ = .ok k μ1 := by unfold tV; rw [h1, bind_ok, h2]
theorem tb (h1 : e ρ μ = .ok (vb k) μ1) : tV e ρ μ = .ok k μ1 := tv h1 rfl
theorem tand1 {r : R Bool} (h1 : c ρ μ = .ok true μ1) (h2 : d ρ μ1 = r) : tAnd c d ρ μ = r := by unfold tAnd; rw [h1, bind_ok]; exact h2
theorem tand0 (h1 : c ρ μ = .ok false μ1) : tAnd c d ρ μ = .ok false μ1 := by unfold tAnd; rw [h1, bind_ok]; rfl
theorem tor1 (h1 : c ρ μ = .ok true μ1) : tOr c d ρ μ = .ok true μ1 := by unfold tOr; rw [h1, bind_ok]; rfl
theorem tor0 {r : R Bool} (h1 : c ρ μ = .ok false μ1) (h2 : d ρ μ1 = r) : tOr c d ρ μ = r := by unfold tOr; rw [h1, bind_ok]; exact h2
theorem tnot (h1 : c ρ μ = .ok k μ1) : tNot c ρ μ = .ok (!k) μ1 := by unfold tNot; rw [h1, bind_ok]
theorem tn1 (h1 : c ρ μ = .ok true μ1) : tNot c ρ μ = .ok false μ1 := tnot h1
theorem tn0 (h1 : c ρ μ = .ok false μ1) : tNot c ρ μ = .ok true μ1 := tnot h1
theorem sfor0 {g : GF} {i : IF} {xs : List D} {f : Fl} (h1 : i ρ μ = .ok ⟨xs, none⟩ μ1) (h2 : foGo g s xs ρ μ1 = .ok f ρ1 μ2) : sFor g i s ρ μ = .ok f ρ1 μ2 := by unfold sFor; rw [h1, toS_ok]; show unlockS none μ1 (foGo g s xs ρ μ1) = _; rw [h2]; rfl
theorem qlc0 {own : List Nat} {g : GF} {i : IF} {xs : List D} (h1 : i ρ μ = .ok ⟨xs, none⟩ μ1) (h2 : lcGo g c e (wip ρ own) xs μ1 = .ok ds μ2) (hl : xs.length ≤ 1000000) : eLc own g i c e ρ μ = .ok (.new (.lst ds)) μ2 := by
  unfold eLc; rw [h1, bind_ok]
  show (match lcGo g c e (wip ρ own) xs μ1 with | .ok ds μ2 => cap xs.length (R.ok (Tv.new (Ob.lst ds)) μ2) | _ => .fail) = _
  rw [h2]
  unfold cap
  exact if_pos hl
theorem sc (h1 : s ρ μ = .ok .nx ρ1 μ1) (h2 : t ρ1 μ1 = q) : sCons s t ρ μ = q := by unfold sCons; rw [h1]; exact h2
theorem sr {f : Fl} (h1 : s ρ μ = .ok f ρ1 μ1) (hf : ∀ z : Unit, (match f with | .nx => False | _ => True)) : sCons s t ρ μ = .ok f ρ1 μ1 := by
  unfold sCons; rw [h1]
  cases f with
  | nx => exact (hf ()).elim
  | rt _ => rfl
  | bk => rfl
  | ct => rfl
theorem sr_rt {x : Tv} (h1 : s ρ μ = .ok (.rt x) ρ1 μ1) : sCons s t ρ μ = .ok (.rt x) ρ1 μ1 := sr h1 fun _ => trivial
theorem sif1 (h1 : c ρ μ = .ok true μ1) (h2 : s ρ μ1 = q) : sIf c s t ρ μ = q := by unfold sIf; rw [h1, toS_ok]; exact h2
theorem sif0 (h1 : c ρ μ = .ok false μ1) (h2 : t ρ μ1 = q) : sIf c s t ρ μ = q := by unfold sIf; rw [h1, toS_ok]; exact h2
theorem sret (h1 : e ρ μ = .ok x μ1) : sRet e ρ μ = .ok (.rt x) ρ μ1 := by unfold sRet; rw [h1, toS_ok]
theorem sexp (h1 : e ρ μ = .ok x μ1) : sE e ρ μ = .ok .nx ρ μ1 := by unfold sE; rw [h1, toS_ok]
theorem sasg {g : GF} (h1 : e ρ μ = .ok (.val v) μ1) (h2 : g v ρ μ1 = .ok ρ2 μ2) : sAsg g e ρ μ = .ok .nx ρ2 μ2 := by
  unfold sAsg; rw [h1, toS_ok]
  show (g v ρ μ1).toS ρ _ = _
  rw [h2]; rfl
theorem sasgN {i : Nat} (h1 : e ρ μ = .ok (.val v) μ1) : sAsg (gN i) e ρ μ = .ok .nx (ρ.set i (some v)) μ1 := sasg h1 rfl
theorem sasgL {i : Nat} {o : Ob} (h1 : e ρ μ = .ok (.new o) μ1) : sAsg (gN i) e ρ μ = .ok .nx (ρ.set i (some (.ref μ1.length))) (μ1 ++ [o]) := by
  unfold sAsg; rw [h1, toS_ok]; rfl
theorem spar {i j : Nat} (h1 : as ρ μ = .ok [v, w] μ1) : sPar i j as ρ μ = .ok .nx ((ρ.set i (some v)).set j (some w)) μ1 := by unfold sPar; rw [h1]; rfl
theorem sfor {g : GF} {i : IF} {it : Itm} (h1 : i ρ μ = .ok it μ1) (h2 : unlockS it.lk μ1 (foGo g s it.xs ρ (lockq it.lk it.xs μ1)) = q) : sFor g i s ρ μ = q := by unfold sFor; rw [h1, toS_ok]; exact h2
theorem qlc {own : List Nat} {g : GF} {i : IF} {it : Itm} (h1 : i ρ μ = .ok it μ1) (h2 : lcGo g c e (wip ρ own) it.xs (lockq it.lk it.xs μ1) = .ok ds μ2) (hl : it.xs.length ≤ 1000000) : eLc own g i c e ρ μ = .ok (.new (.lst ds)) (unlockq it.lk μ1 μ2) := by
  unfold eLc; rw [h1, bind_ok, h2]
  unfold cap
  exact if_pos hl
end
/-! the same rules, the small heap as it is -/
section
variable {a b e : EF} {c d : TF} {as : AF} {ρ ρ1 ρ2 : Ev} {μ : Hq} {x y z : Tv} {v w : D} {ds : List D} {op : O2} {o1 : O1} {k : Bool} {s t : SF} {q : RS} {f : Fl}
theorem p2 (h1 : a ρ μ = .ok x μ) (h2 : b ρ μ = .ok y μ) (h3 : op x y μ = .ok z μ) : e2 op a b ρ μ = .ok z μ := q2 h1 h2 h3
theorem p1 (h1 : a ρ μ = .ok x μ) (h3 : o1 x μ = .ok z μ) : e1 o1 a ρ μ = .ok z μ := q1 h1 h3
theorem pn : aNil ρ μ = .ok [] μ := rfl
theorem pa (h1 : e ρ μ = .ok (.val v) μ) (h2 : as ρ μ = .ok ds μ) : aCons e as ρ μ = .ok (v :: ds) μ := qa h1 h2
theorem pc {cf : CF} {i : Nat} (h1 : as ρ μ = .ok ds μ) (h2 : cf i ds μ = .ok z μ) : eCall cf i as ρ μ = .ok z μ := qc h1 h2
theorem ptup (h1 : as ρ μ = .ok ds μ) (hl : ds.length ≤ 1000000) : eTup as ρ μ = .ok (.val (.tup ds)) μ := qtup h1 hl
theorem pand1 (h1 : a ρ μ = .ok (vb true) μ) (h3 : b ρ μ = .ok z μ) : eAnd a b ρ μ = .ok z μ := qand1 h1 rfl h3
theorem pand0 (h1 : a ρ μ = .ok (vb false) μ) : eAnd a b ρ μ = .ok (vb false) μ := qand0 h1 rfl
theorem por1 (h1 : a ρ μ = .ok (vb true) μ) : eOr a b ρ μ = .ok (vb true) μ := qor1 h1 rfl
theorem por0 (h1 : a ρ μ = .ok (vb false) μ) (h3 : b ρ μ = .ok z μ) : eOr a b ρ μ = .ok z μ := qor0 h1 rfl h3
theorem pnot (h1 : a ρ μ = .ok (vb k) μ) : eNot a ρ μ = .ok (vb (!k)) μ := qnot h1 rfl
theorem pif1 (h1 : c ρ μ = .ok true μ) (h2 : a ρ μ = .ok z μ) : eIf c a b ρ μ = .ok z μ := qif1 h1 h2
theorem pif0 (h1 : c ρ μ = .ok false μ) (h2 : b ρ μ = .ok z μ) : eIf c a b ρ μ = .ok z μ := qif0 h1 h2
theorem ptv (h1 : e ρ μ = .ok x μ) (h2 : tru μ x = some k) : tV e ρ μ = .ok k μ := tv h1 h2
theorem ptb (h1 : e ρ μ = .ok (vb k) μ) : tV e ρ μ = .ok k μ := tv h1 rfl
theorem ptand1 (h1 : c ρ μ = .ok true μ) (h2 : d ρ μ = .ok k μ) : tAnd c d ρ μ = .ok k μ := tand1 h1 h2
theorem ptand0 (h1 : c ρ μ = .ok false μ) : tAnd c d ρ μ = .ok false μ := tand0 h1
theorem ptor1 (h1 : c ρ μ = .ok true μ) : tOr c d ρ μ = .ok true μ := tor1 h1
theorem ptor0 (h1 : c ρ μ = .ok false μ) (h2 : d ρ μ = .ok k μ) : tOr c d ρ μ = .ok k μ := tor0 h1 h2
theorem ptn1 (h1 : c ρ μ = .ok true μ) : tNot c ρ μ = .ok false μ := tnot h1
theorem ptn0 (h1 : c ρ μ = .ok false μ) : tNot c ρ μ = .ok true μ := tnot h1
theorem psc (h1 : s ρ μ = .ok .nx ρ1 μ) (h2 : t ρ1 μ = q) : sCons s t ρ μ = q := sc h1 h2
theorem psif1 (h1 : c ρ μ = .ok true μ) (h2 : s ρ μ = q) : sIf c s t ρ μ = q := sif1 h1 h2
theorem psif0 (h1 : c ρ μ = .ok false μ) (h2 : t ρ μ = q) : sIf c s t ρ μ = q := sif0 h1 h2
/-- an if that is not taken, without else -/
theorem pskip (h1 : c ρ μ = .ok false μ) (h2 : t ρ μ = q) : sCons (sIf c s sNil) t ρ μ = q := sc (sif0 h1 rfl) h2
theorem pret (h1 : e ρ μ = .ok x μ) : sCons (sRet e) t ρ μ = .ok (.rt x) ρ μ := sr_rt (sret h1)
theorem pexp (h1 : e ρ μ = .ok x μ) (h2 : t ρ μ = q) : sCons (sE e) t ρ μ = q := sc (sexp h1) h2
theorem pset {i : Nat} (h1 : e ρ μ = .ok (.val v) μ) (h2 : t (ρ.set i (some v)) μ = q) : sCons (sAsg (gN i) e) t ρ μ = q := sc (sasgN h1) h2
theorem pasg {g : GF} (h1 : e ρ μ = .ok (.val v) μ) (h2 : g v ρ μ = .ok ρ2 μ) (h3 : t ρ2 μ = q) : sCons (sAsg g e) t ρ μ = q := sc (sasg h1 h2) h3
theorem ppar {i j : Nat} (h1 : as ρ μ = .ok [v, w] μ) (h2 : t ((ρ.set i (some v)).set j (some w)) μ = q) : sCons (sPar i j as) t ρ μ = q := sc (spar h1) h2
theorem pfor {g : GF} {i : IF} {xs : List D} (h1 : i ρ μ = .ok ⟨xs, none⟩ μ) (h2 : foGo g s xs ρ μ = .ok .nx ρ1 μ) (h3 : t ρ1 μ = q) : sCons (sFor g i s) t ρ μ = q := sc (sfor0 h1 h2) h3
end
theorem wh_inv {c : TF} {b : SF} (S : Nat → Ev) (M : Nat → Hq) (N : Nat) (hN : N < 1000000) (hc : ∀ k, k < N → c (S k) (M k) = .ok true (M k)) (hb : ∀ k, k < N → b (S k) (M k) = .ok .nx (S (k + 1)) (M (k + 1))) (he : c (S N) (M N) = .ok false (M N)) :
    sWh c b (S 0) (M 0) = .ok .nx (S N) (M N) := by
  have key : ∀ (j k f : Nat), k + j = N → j < f → whGo c b f (S k) (M k) = .ok .nx (S N) (M N) := by
    intro j
    induction j with
    | zero =>
      intro k f hk hf
      cases f with
      | zero => omega
      | succ f =>
        have : k = N := by omega
        subst this
        show ((c (S k) (M k)).toS (S k) fun q μ1 => _) = _
        rw [he]; rfl
    | succ j ih =>
      intro k f hk hf
      cases f with
      | zero => omega
      | succ f =>
        show ((c (S k) (M k)).toS (S k) fun q μ1 => _) = _
        rw [hc k (by omega), toS_ok]
        show (match b (S k) (M k) with | .ok .nx ρ2 μ2 => whGo c b f ρ2 μ2 | .ok .ct ρ2 μ2 => whGo c b f ρ2 μ2 | .ok .bk ρ2 μ2 => .ok .nx ρ2 μ2 | r => r) = _
        rw [hb k (by omega)]
        exact ih (k + 1) f (by omega) (by omega)
  exact key N 0 big (by omega) (by unfold big; omega)
/-- a for whose turns keep the small heap and go on: the slots are told by the items taken -/
theorem fo_inv {α : Type} {g : GF} {b : SF} {μ : Hq} (I : α → D) (E : List α → Ev) (h : ∀ pre x, ∃ ρ1, g (I x) (E pre) μ = .ok ρ1 μ ∧ b ρ1 μ = .ok .nx (E (pre ++ [x])) μ) :
    ∀ (xs pre : List α), foGo g b (xs.map I) (E pre) μ = .ok .nx (E (pre ++ xs)) μ
  | [], pre => by rw [List.append_nil]; rfl
  | x :: xs, pre => by
    obtain ⟨ρ1, h1, h2⟩ := h pre x
    have ih := fo_inv I E h xs (pre ++ [x])
    rw [List.map_cons]
    show ((g (I x) (E pre) μ).toS (E pre) fun ρ1 μ1 => _) = _
    rw [h1, toS_ok, h2]
    dsimp only
    rw [ih, List.append_assoc]; rfl
/-- .. where only the items of the list come -/
theorem fo_mem {α : Type} {g : GF} {b : SF} {μ : Hq} (I : α → D) (E : List α → Ev) (all : List α) (h : ∀ pre x post, all = pre ++ x :: post → ∃ ρ1, g (I x) (E pre) μ = .ok ρ1 μ ∧ b ρ1 μ = .ok .nx (E (pre ++ [x])) μ) :
    ∀ (xs pre : List α), all = pre ++ xs → foGo g b (xs.map I) (E pre) μ = .ok .nx (E all) μ
  | [], pre, e => by rw [e, List.append_nil]; rfl
  | x :: xs, pre, e => by
    obtain ⟨ρ1, h1, h2⟩ := h pre x xs e
    have ih := fo_mem I E all h xs (pre ++ [x]) (by rw [e]; simp)
    rw [List.map_cons]
    show ((g (I x) (E pre) μ).toS (E pre) fun ρ1 μ1 => _) = _
    rw [h1, toS_ok, h2]
    dsimp only
    rw [ih]
end Mi
end
section
set_option linter.all false
set_option maxRecDepth 100000
set_option maxHeartbeats 1000000
/-! MiQ: the laws' own little functions, plain. -/
namespace Mi
open PySem
/-- what _law_cell reads -/
def cellv (ns : List Int) (j : Nat) : Int := if j < ns.length then (if ns.getD j 0 < 0 then -ns.getD j 0 else ns.getD j 0) % 1000000007 else 0
theorem cellv_nn (ns : List Int) (j : Nat) : 0 ≤ cellv ns j := by unfold cellv; split <;> omega
theorem cellv_lt (ns : List Int) (j : Nat) : cellv ns j < 1000000007 := by unfold cellv; split <;> omega
/-- what _law_rich makes -/
def richv (a b : Int) : Int := (a * 48271 + b * 69621 + 17) % 2147483647 * 2147483629 + ((a * 48271 + b * 69621 + 17) % 2147483647 * 16807 + a) % 2147483629
theorem richv_nn (a b : Int) : 0 ≤ richv a b := by unfold richv; omega
theorem call_v {tab : List FD} {n f np nn : Nat} {ds : List D} {μ : Hq} {B : CF → SF} {d : D} {ρ' : Ev} {μ' : Hq} (ρ0 : Ev) (h1 : tab[f]? = some ⟨np, nn, B⟩) (h2 : ds.length = np) (hs : slots nn ds = ρ0) (h3 : D.pures ds = true) (h4 : D.pure d = true)
    (hb : B (callF tab n) ρ0 [] = .ok (.rt (.val d)) ρ' μ') : callF tab (n + 1) f ds μ = .ok (.val d) μ := by
  subst hs
  exact call_val h1 h2 h3 h4 hb
theorem call_n {tab : List FD} {n f np nn : Nat} {ds : List D} {μ : Hq} {B : CF → SF} {ρ' : Ev} {μ' : Hq} (ρ0 : Ev) (h1 : tab[f]? = some ⟨np, nn, B⟩) (h2 : ds.length = np) (hs : slots nn ds = ρ0) (h3 : D.pures ds = true)
    (hb : B (callF tab n) ρ0 [] = .ok .nx ρ' μ') : callF tab (n + 1) f ds μ = .ok (.val .non) μ := by
  subst hs
  exact call_non h1 h2 h3 hb
def cellB : SF := (sCons (sIf (tV (e2 opLt (eVar 1) (e1 opLen (eVar 0)))) (sCons (sRet (e2 opMod (e1 opAbs (e1 opInt (e2 opIx (eVar 0) (eVar 1)))) (eC (.int 1000000007)))) sNil) sNil) (sCons (sRet (eC (.int 0))) sNil))
def richB : SF := (sCons (sAsg (gN 2) (e2 opMod (e1 opInt (e2 opAdd (e2 opAdd (e2 opMul (eVar 0) (eC (.int 48271))) (e2 opMul (eVar 1) (eC (.int 69621)))) (eC (.int 17)))) (eC (.int 2147483647)))) (sCons (sRet (e2 opAdd (e2 opMul (eVar 2) (eC (.int 2147483629))) (e2 opMod (e1 opInt (e2 opAdd (e2 opMul (eVar 2) (eC (.int 16807))) (eVar 0))) (eC (.int 2147483629))))) sNil))
theorem mul_small {i j : Int} (h : i.natAbs < 18446744073709551616) (μ : Hq) : opMul (vi i) (vi j) μ = .ok (vi (i * j)) μ := by
  show (if mulOk i j = true then _ else _) = _
  refine if_pos ?_
  unfold mulOk
  rw [decide_eq_true h]; rfl
theorem mul_small' {i j : Int} (h : j.natAbs < 18446744073709551616) (μ : Hq) : opMul (vi i) (vi j) μ = .ok (vi (i * j)) μ := by
  show (if mulOk i j = true then _ else _) = _
  refine if_pos ?_
  unfold mulOk
  rw [decide_eq_true h]; simp
theorem modP {i j : Int} (h : 0 < j) (μ : Hq) : opMod (vi i) (vi j) μ = .ok (vi (i % j)) μ := if_pos h
theorem divP {i j : Int} (h : 0 < j) (h2 : j < 1073741824) (μ : Hq) : opDiv (vi i) (vi j) μ = .ok (vi (i / j)) μ := by
  show (if 0 < j then (if j < 1073741824 then _ else _) else _) = _
  rw [if_pos h, if_pos h2]
theorem at_nat {xs : List D} {j : Nat} (h : j < xs.length) : at? xs (j : Nat) = some xs[j] := by
  unfold at? ixq
  rw [if_pos (by omega), if_pos (by omega)]
  simp [h]
theorem ix_tup {xs : List D} {j : Nat} {d : D} (h : xs[j]? = some d) (μ : Hq) : opIx (.val (.tup xs)) (vi (j : Nat)) μ = .ok (.val d) μ := by
  obtain ⟨h1, h2⟩ := List.getElem?_eq_some_iff.mp h
  show (match at? xs (j : Nat) with | some d => R.ok (Tv.val d) μ | none => .fail) = _
  rw [at_nat h1, h2]
theorem ix_fl {xs : List D} {j : Nat} {d : D} (h : xs[j]? = some d) (μ : Hq) : opIx (.val (.fl xs)) (vi (j : Nat)) μ = .ok (.val d) μ := by
  obtain ⟨h1, h2⟩ := List.getElem?_eq_some_iff.mp h
  show (match at? xs (j : Nat) with | some d => R.ok (Tv.val d) μ | none => .fail) = _
  rw [at_nat h1, h2]
theorem ix_new {xs : List D} {j : Nat} {d : D} (h : xs[j]? = some d) (μ : Hq) : opIx (.new (.lst xs)) (vi (j : Nat)) μ = .ok (.val d) μ := by
  obtain ⟨h1, h2⟩ := List.getElem?_eq_some_iff.mp h
  show (match at? xs (j : Nat) with | some d => R.ok (Tv.val d) μ | none => .fail) = _
  rw [at_nat h1, h2]
theorem lt1 {i j : Int} (h : i < j) (μ : Hq) : opLt (vi i) (vi j) μ = .ok (vb true) μ := by
  show R.ok (vb (decide (i < j))) μ = _
  rw [decide_eq_true h]
theorem lt0 {i j : Int} (h : ¬ i < j) (μ : Hq) : opLt (vi i) (vi j) μ = .ok (vb false) μ := by
  show R.ok (vb (decide (i < j))) μ = _
  rw [decide_eq_false h]
theorem gt1 {i j : Int} (h : j < i) (μ : Hq) : opGt (vi i) (vi j) μ = .ok (vb true) μ := lt1 h μ
theorem gt0 {i j : Int} (h : ¬ j < i) (μ : Hq) : opGt (vi i) (vi j) μ = .ok (vb false) μ := lt0 h μ
theorem ge1 {i j : Int} (h : j ≤ i) (μ : Hq) : opGe (vi i) (vi j) μ = .ok (vb true) μ := by
  show R.ok (vb (decide (j ≤ i))) μ = _
  rw [decide_eq_true h]
theorem ge0 {i j : Int} (h : ¬ j ≤ i) (μ : Hq) : opGe (vi i) (vi j) μ = .ok (vb false) μ := by
  show R.ok (vb (decide (j ≤ i))) μ = _
  rw [decide_eq_false h]
theorem le1 {i j : Int} (h : i ≤ j) (μ : Hq) : opLe (vi i) (vi j) μ = .ok (vb true) μ := ge1 h μ
theorem le0 {i j : Int} (h : ¬ i ≤ j) (μ : Hq) : opLe (vi i) (vi j) μ = .ok (vb false) μ := ge0 h μ
theorem eqi (i j : Int) (μ : Hq) : opEq (vi i) (vi j) μ = .ok (vb (decide (i = j))) μ := rfl
theorem eq1 {i j : Int} (h : i = j) (μ : Hq) : opEq (vi i) (vi j) μ = .ok (vb true) μ := by rw [eqi, decide_eq_true h]
theorem eq0 {i j : Int} (h : i ≠ j) (μ : Hq) : opEq (vi i) (vi j) μ = .ok (vb false) μ := by rw [eqi, decide_eq_false h]
theorem lt_int (i j : Int) (μ : Hq) : opLt (vi i) (vi j) μ = .ok (vb (decide (i < j))) μ := rfl
theorem range1 {a : EF} {ρ : Ev} {μ μ1 : Hq} {n : Nat} (h : a ρ μ = .ok (vi (n : Nat)) μ1) (hn : n < 1000000000) : iRange1 a ρ μ = .ok ⟨(List.range n).map fun k => D.int (k : Nat), none⟩ μ1 := by
  unfold iRange1
  rw [h, bind_ok]
  show (if ((n : Nat) : Int) < 1000000000 ∧ -1000000000 < ((n : Nat) : Int) then R.ok (Itm.mk (rangeD 0 ((n : Nat) : Int).toNat) none) μ1 else .fail) = _
  rw [if_pos ⟨by omega, by omega⟩, Int.toNat_natCast, rangeD_map]
  simp
theorem cell_ok (ns : List Int) (j : Nat) : ∃ ρ1 μ1, cellB [some (.fl (ns.map .int)), some (.int (j : Nat))] [] = .ok (.rt (vi (cellv ns j))) ρ1 μ1 := by
  refine ⟨[some (.fl (ns.map .int)), some (.int (j : Nat))], [], ?_⟩
  unfold cellB
  have hl : e1 opLen (eVar 0) [some (.fl (ns.map D.int)), some (.int (j : Nat))] [] = .ok (vi ns.length) [] := by
    show R.ok (vi (ns.map D.int).length) [] = _
    rw [List.length_map]
  by_cases h : j < ns.length
  · refine sr_rt (sif1 (tb (p2 rfl hl ?_)) (pret ?_))
    · exact lt1 (by omega) []
    · have hx : (ns.map D.int)[j]? = some (.int (ns.getD j 0)) := by simp [h, List.getD_eq_getElem?_getD]
      refine p2 (p1 (p1 (p2 rfl rfl (ix_fl hx [])) rfl) rfl) rfl ?_
      show R.ok (vi ((if ns.getD j 0 < 0 then -ns.getD j 0 else ns.getD j 0) % 1000000007)) [] = _
      unfold cellv
      rw [if_pos h]
  · refine pskip (tb (p2 rfl hl ?_)) (pret ?_)
    · exact lt0 (by omega) []
    · unfold cellv; rw [if_neg h]; rfl
theorem rich_ok (a b : Int) : ∃ ρ1 μ1, richB [some (.int a), some (.int b), none] [] = .ok (.rt (vi (richv a b))) ρ1 μ1 := by
  refine ⟨[some (.int a), some (.int b), some (.int ((a * 48271 + b * 69621 + 17) % 2147483647))], [], ?_⟩
  unfold richB
  refine pset (v := .int ((a * 48271 + b * 69621 + 17) % 2147483647)) (p2 (p1 (p2 (p2 (p2 rfl rfl (mul_small' (by decide) _)) (p2 rfl rfl (mul_small' (by decide) _)) rfl) rfl rfl) rfl) rfl rfl) (pret (p2 (p2 rfl rfl (mul_small' (by decide) _)) (p2 (p1 (p2 (p2 rfl rfl (mul_small' (by decide) _)) rfl rfl) rfl) rfl rfl) rfl))
/-- slots are told by a predicate -/
theorem fo_pred {α : Type} {g : GF} {b : SF} {μ : Hq} (I : α → D) (P : Ev → Prop) (xs : List α) (h : ∀ x ∈ xs, ∀ ρ, P ρ → ∃ ρ1 ρ2, g (I x) ρ μ = .ok ρ1 μ ∧ b ρ1 μ = .ok .nx ρ2 μ ∧ P ρ2) :
    ∀ ρ, P ρ → ∃ ρ2, foGo g b (xs.map I) ρ μ = .ok .nx ρ2 μ ∧ P ρ2 := by
  induction xs with
  | nil => intro ρ hp; exact ⟨ρ, rfl, hp⟩
  | cons x xs ih =>
    intro ρ hp
    obtain ⟨ρ1, ρ2, h1, h2, h3⟩ := h x List.mem_cons_self ρ hp
    obtain ⟨ρ3, h4, h5⟩ := ih (fun y hy => h y (List.mem_cons_of_mem _ hy)) ρ2 h3
    refine ⟨ρ3, ?_, h5⟩
    rw [List.map_cons]
    show ((g (I x) ρ μ).toS ρ fun ρ1 μ1 => _) = _
    rw [h1, toS_ok, h2]
    exact h4
/-- a row made by tuple([e for v in range(n)]) -/
theorem tup_range {own : List Nat} {v : Nat} {a e : EF} {ρ : Ev} {μ : Hq} {n : Nat} (F : Nat → D) (h : a ρ μ = .ok (vi (n : Nat)) μ) (hn : n < 1000000) (he : ∀ k, k < n → e ((Mi.wip ρ own).set v (some (.int (k : Nat)))) μ = .ok (.val (F k)) μ) :
    e1 opTuple (eLc own (gN v) (iRange1 a) tYs e) ρ μ = .ok (.val (.tup ((List.range n).map F))) μ := by
  refine p1 (qlc0 (range1 h (by omega)) (lcGo_of (fun k : Nat => D.int (k : Nat)) F (List.range n) fun k hk => ⟨_, rfl, he k (List.mem_range.mp hk)⟩) (by simp; omega)) rfl
/-- any([e for v in range(n)]), none of them -/
theorem any_range {own : List Nat} {v : Nat} {a e : EF} {ρ : Ev} {μ : Hq} {n : Nat} (h : a ρ μ = .ok (vi (n : Nat)) μ) (hn : n < 1000000) (he : ∀ k, k < n → e ((Mi.wip ρ own).set v (some (.int (k : Nat)))) μ = .ok (vb false) μ) :
    e1 opAny (eLc own (gN v) (iRange1 a) tYs e) ρ μ = .ok (vb false) μ := by
  refine p1 (qlc0 (ds := (List.range n).map fun k => D.bl false) (range1 h (by omega)) (lcGo_of (fun k : Nat => D.int (k : Nat)) (fun _ => D.bl false) (List.range n) fun k hk => ⟨_, rfl, he k (List.mem_range.mp hk)⟩) (by simp; omega)) ?_
  show (match bls ((List.range n).map fun k => D.bl false) with | some bs => R.ok (vb (bs.any id)) μ | none => .fail) = _
  rw [bls_of (fun _ => false) (List.range n)]
  show R.ok (vb (((List.range n).map fun _ => false).any id)) μ = _
  rw [show ((List.range n).map fun _ => false).any id = false by simp]
/-- all([e for v in xs]), all of them -/
theorem all_of {α : Type} {own : List Nat} {g : GF} {i : IF} {e : EF} {ρ : Ev} {μ : Hq} (I : α → D) (xs : List α) (hi : i ρ μ = .ok ⟨xs.map I, none⟩ μ) (hn : xs.length ≤ 1000000) (he : ∀ x ∈ xs, ∃ ρ1, g (I x) (Mi.wip ρ own) μ = .ok ρ1 μ ∧ e ρ1 μ = .ok (vb true) μ) :
    e1 opAll (eLc own g i tYs e) ρ μ = .ok (vb true) μ := by
  refine p1 (qlc0 (ds := xs.map fun k => D.bl true) hi (lcGo_of I (fun _ => D.bl true) xs he) (by simpa using hn)) ?_
  show (match bls (xs.map fun k => D.bl true) with | some bs => R.ok (vb (bs.all id)) μ | none => .fail) = _
  rw [bls_of (fun _ => true) xs]
  show R.ok (vb ((xs.map fun _ => true).all id)) μ = _
  rw [show (xs.map fun _ => true).all id = true by simp]
theorem zip_ints : ∀ xs : List Int, zipD (xs.map D.int) (xs.map D.int) = xs.map fun x => D.tup [.int x, .int x]
  | [] => rfl
  | x :: xs => by show D.tup [.int x, .int x] :: zipD (xs.map D.int) (xs.map D.int) = _; rw [zip_ints xs]; rfl
end Mi
end
section
set_option linter.all false
set_option maxRecDepth 100000
set_option maxHeartbeats 4000000
open PySem Mi
namespace L_k12
def c_MOST_PERIOD : D := .int 30
def c_MOST_STEPS : D := .int 400
def b_is_integer (cf : CF) : SF := (sCons (sRet (eAnd (e1 (opIsi .int) (eVar 0)) (eNot (e1 (opIsi .bool) (eVar 0))))) sNil)
def b_check_integers (cf : CF) : SF := (sCons (sIf (tOr (tNot (tV (e1 (opIsi .tuple) (eVar 0)))) (tNot (tV (e1 opAll (eLc [1] (gN 1) (iE (eVar 0)) tYs (eCall cf 0 (aCons (eVar 1) aNil))))))) (sCons sNever sNil) sNil) sNil)
def b_minus_continuant (cf : CF) : SF := (sCons (sE (eCall cf 1 (aCons (eVar 0) aNil))) (sCons (sAsg (gT (gsCons (gN 1) (gsCons (gN 2) gsNil))) (eTup (aCons (eC (.int 0)) (aCons (eC (.int 1)) aNil)))) (sCons (sFor (gN 3) (iE (eVar 0)) (sCons (sPar 1 2 (aCons (eVar 2) (aCons (e2 opSub (e2 opMul (eVar 3) (eVar 2)) (eVar 1)) aNil))) sNil)) (sCons (sRet (eVar 2)) sNil))))
def b_times (cf : CF) : SF := (sCons (sAsg (gT (gsCons (gN 2) (gsCons (gN 3) (gsCons (gN 4) (gsCons (gN 5) gsNil))))) (eVar 0)) (sCons (sAsg (gT (gsCons (gN 6) (gsCons (gN 7) (gsCons (gN 8) (gsCons (gN 9) gsNil))))) (eVar 1)) (sCons (sRet (eTup (aCons (e2 opAdd (e2 opMul (eVar 2) (eVar 6)) (e2 opMul (eVar 3) (eVar 8))) (aCons (e2 opAdd (e2 opMul (eVar 2) (eVar 7)) (e2 opMul (eVar 3) (eVar 9))) (aCons (e2 opAdd (e2 opMul (eVar 4) (eVar 6)) (e2 opMul (eVar 5) (eVar 8))) (aCons (e2 opAdd (e2 opMul (eVar 4) (eVar 7)) (e2 opMul (eVar 5) (eVar 9))) aNil)))))) sNil)))
def b_matrix_of (cf : CF) : SF := (sCons (sE (eCall cf 1 (aCons (eVar 0) aNil))) (sCons (sAsg (gN 1) (eTup (aCons (eC (.int 1)) (aCons (eC (.int 0)) (aCons (eC (.int 0)) (aCons (eC (.int 1)) aNil)))))) (sCons (sFor (gN 2) (iE (eVar 0)) (sCons (sAsg (gN 1) (eCall cf 3 (aCons (eVar 1) (aCons (eTup (aCons (eVar 2) (aCons (e1 opNeg (eC (.int 1))) (aCons (eC (.int 1)) (aCons (eC (.int 0)) aNil))))) aNil)))) sNil)) (sCons (sRet (eVar 1)) sNil))))
def b_check_period (cf : CF) : SF := (sCons (sIf (tOr (tNot (tV (e1 (opIsi .tuple) (eVar 0)))) (tNot (tV (e1 opAll (eLc [1] (gN 1) (iE (eVar 0)) tYs (eCall cf 0 (aCons (eVar 1) aNil))))))) (sCons sNever sNil) sNil) (sCons (sIf (tOr (tV (e2 opEq (eVar 0) (eTup aNil))) (tV (e2 opGt (e1 opLen (eVar 0)) (eC c_MOST_PERIOD)))) (sCons sNever sNil) sNil) sNil))
def b_items (cf : CF) : SF := (sCons (sRet (e1 opTuple (eLc [3] (gN 3) (iRange1 (eVar 2)) tYs (e2 opIx (eVar 0) (e2 opMod (e2 opAdd (eVar 1) (eVar 3)) (e1 opLen (eVar 0))))))) sNil)
def b_entry (cf : CF) : SF := (sCons (sE (eCall cf 5 (aCons (eVar 0) aNil))) (sCons (sIf (tOr (tNot (tV (eCall cf 0 (aCons (eVar 1) aNil)))) (tOr (tNot (tV (eCall cf 0 (aCons (eVar 2) aNil)))) (tOr (tV (e2 opLt (eVar 2) (eC (.int 0)))) (tV (e2 opGt (eVar 2) (eC c_MOST_STEPS)))))) (sCons sNever sNil) sNil) (sCons (sRet (eIf (tV (e2 opGt (eVar 2) (eC (.int 0)))) (eCall cf 2 (aCons (eCall cf 6 (aCons (eVar 0) (aCons (e2 opAdd (eVar 1) (eC (.int 1))) (aCons (e2 opSub (eVar 2) (eC (.int 1))) aNil)))) aNil)) (eC (.int 0)))) sNil)))
def b_growth (cf : CF) : SF := (sCons (sE (eCall cf 5 (aCons (eVar 0) aNil))) (sCons (sIf (tOr (tNot (tV (eCall cf 0 (aCons (eVar 1) aNil)))) (tOr (tV (e2 opLt (eVar 1) (eC (.int 0)))) (tV (e2 opGt (e2 opMul (eVar 1) (e1 opLen (eVar 0))) (eC c_MOST_STEPS))))) (sCons sNever sNil) sNil) (sCons (sAsg (gN 2) (eCall cf 4 (aCons (e2 opMul (eVar 0) (eVar 1)) aNil))) (sCons (sRet (e2 opAdd (e2 opIx (eVar 2) (eC (.int 0))) (e2 opIx (eVar 2) (eC (.int 3))))) sNil))))
def b_growths (cf : CF) : SF := (sCons (sAsg (gN 2) (eCall cf 8 (aCons (eVar 0) (aCons (eC (.int 1)) aNil)))) (sCons (sAsg (gN 3) (eLst (aCons (eC (.int 2)) (aCons (eVar 2) aNil)))) (sCons (sWh (tV (e2 opLt (e1 opLen (eVar 3)) (eVar 1))) (sCons (sE (eApp (eVar 3) (e2 opSub (e2 opMul (eVar 2) (e2 opIx (eVar 3) (e1 opNeg (eC (.int 1))))) (e2 opIx (eVar 3) (e1 opNeg (eC (.int 2))))))) sNil)) (sCons (sRet (e1 opTuple (eSl (eVar 3) pN (pS (eVar 1))))) sNil))))
def b__law_cell (cf : CF) : SF := (sCons (sIf (tV (e2 opLt (eVar 1) (e1 opLen (eVar 0)))) (sCons (sRet (e2 opMod (e1 opAbs (e1 opInt (e2 opIx (eVar 0) (eVar 1)))) (eC (.int 1000000007)))) sNil) sNil) (sCons (sRet (eC (.int 0))) sNil))
def b__law_rich (cf : CF) : SF := (sCons (sAsg (gN 2) (e2 opMod (e1 opInt (e2 opAdd (e2 opAdd (e2 opMul (eVar 0) (eC (.int 48271))) (e2 opMul (eVar 1) (eC (.int 69621)))) (eC (.int 17)))) (eC (.int 2147483647)))) (sCons (sRet (e2 opAdd (e2 opMul (eVar 2) (eC (.int 2147483629))) (e2 opMod (e1 opInt (e2 opAdd (e2 opMul (eVar 2) (eC (.int 16807))) (eVar 0))) (eC (.int 2147483629))))) sNil))
def b__law_same (cf : CF) : SF := (sCons (sIf (tV (e1 (opIsi .tuple) (eVar 1))) (sCons (sRet (eAnd (e1 (opIsi .tuple) (eVar 0)) (eAnd (e2 opEq (e1 opLen (eVar 0)) (e1 opLen (eVar 1))) (e1 opAll (eLc [2, 3] (gT (gsCons (gN 2) (gsCons (gN 3) gsNil))) (iZip (eVar 0) (eVar 1)) tYs (eCall cf 12 (aCons (eVar 2) (aCons (eVar 3) aNil)))))))) sNil) sNil) (sCons (sIf (tOr (tV (e1 (opIsi .bool) (eVar 1))) (tV (e1 (opIsi .bool) (eVar 0)))) (sCons (sRet (eAnd (e1 (opIsi .bool) (eVar 0)) (eAnd (e1 (opIsi .bool) (eVar 1)) (e2 opEq (eVar 0) (eVar 1))))) sNil) sNil) (sCons (sIf (tV (e1 (opIsi .int) (eVar 1))) (sCons (sRet (eAnd (e1 (opIsi .int) (eVar 0)) (e2 opEq (eVar 0) (eVar 1)))) sNil) sNil) (sCons (sRet (e2 opEq (eVar 0) (eVar 1))) sNil))))
def b__law_trace (cf : CF) : SF := (sCons (sAsg (gT (gsCons (gN 2) (gsCons (gN 3) (gsCons (gN 4) (gsCons (gN 5) gsNil))))) (eTup (aCons (eC (.int 1)) (aCons (eC (.int 0)) (aCons (eC (.int 0)) (aCons (eC (.int 1)) aNil)))))) (sCons (sFor (gN 6) (iRange1 (eVar 1)) (sCons (sFor (gN 7) (iE (eVar 0)) (sCons (sAsg (gT (gsCons (gN 2) (gsCons (gN 3) (gsCons (gN 4) (gsCons (gN 5) gsNil))))) (eTup (aCons (e2 opAdd (e2 opMul (eVar 2) (eVar 7)) (eVar 3)) (aCons (e1 opNeg (eVar 2)) (aCons (e2 opAdd (e2 opMul (eVar 4) (eVar 7)) (eVar 5)) (aCons (e1 opNeg (eVar 4)) aNil)))))) sNil)) sNil)) (sCons (sRet (e2 opAdd (eVar 2) (eVar 5))) sNil)))
def b_law (cf : CF) : SF := (sCons (sFor (gN 1) (iRange1 (eC (.int 4))) (sCons (sAsg (gT (gsCons (gN 2) (gsCons (gN 3) gsNil))) (eTup (aCons (eCall cf 11 (aCons (eCall cf 10 (aCons (eVar 0) (aCons (e2 opMul (eC (.int 2)) (eVar 1)) aNil))) (aCons (e2 opMul (eC (.int 2)) (eVar 1)) aNil))) (aCons (eCall cf 11 (aCons (eCall cf 10 (aCons (eVar 0) (aCons (e2 opAdd (e2 opMul (eC (.int 2)) (eVar 1)) (eC (.int 1))) aNil))) (aCons (e2 opAdd (e2 opMul (eC (.int 2)) (eVar 1)) (eC (.int 1))) aNil))) aNil)))) (sCons (sAsg (gN 4) (e2 opIx (eLst (aCons (e1 opNeg (eC (.int 1))) (aCons (eC (.int 1)) (aCons (eC (.int 2)) (aCons (eC (.int 3)) aNil))))) (e2 opMod (eVar 3) (eC (.int 4))))) (sCons (sAsg (gN 5) (e1 opTuple (eLc [11] (gN 11) (iRange1 (e2 opAdd (eC (.int 1)) (e2 opMod (e2 opDiv (eVar 3) (eC (.int 5))) (eC (.int 6))))) tYs (e2 opAdd (eVar 4) (e2 opMod (e2 opDiv (eVar 2) (e2 opAdd (eC (.int 3)) (e2 opMul (eC (.int 5)) (eVar 11)))) (e2 opSub (eC (.int 5)) (eVar 4))))))) (sCons (sAsg (gN 6) (e1 opLen (eVar 5))) (sCons (sAsg (gN 7) (e1 opTuple (eLc [12] (gN 12) (iRange1 (eC (.int 9))) tYs (eCall cf 13 (aCons (eVar 5) (aCons (eVar 12) aNil)))))) (sCons (sIf (tOr (tNot (tV (eCall cf 12 (aCons (eCall cf 9 (aCons (eVar 5) (aCons (eC (.int 9)) aNil))) (aCons (eVar 7) aNil))))) (tNot (tV (eCall cf 12 (aCons (e1 opTuple (eLc [12] (gN 12) (iRange1 (eC (.int 9))) tYs (eCall cf 8 (aCons (eVar 5) (aCons (eVar 12) aNil))))) (aCons (eVar 7) aNil)))))) (sCons (sRet (eC (.bl false))) sNil) sNil) (sCons (sIf (tAnd (tV (e2 opGt (eVar 4) (eC (.int 2)))) (tV (e1 opAny (eLc [11] (gN 11) (iRange1 (eC (.int 8))) tYs (e2 opGe (e2 opIx (eVar 7) (eVar 11)) (e2 opIx (eVar 7) (e2 opAdd (eVar 11) (eC (.int 1))))))))) (sCons (sRet (eC (.bl false))) sNil) sNil) (sCons (sPar 8 9 (aCons (e2 opMod (e2 opDiv (eVar 2) (eC (.int 7))) (eVar 6)) (aCons (e2 opMod (e2 opDiv (eVar 3) (eC (.int 7))) (eC (.int 9))) aNil))) (sCons (sAsg (gN 10) (eCall cf 7 (aCons (eVar 5) (aCons (eVar 8) (aCons (e2 opAdd (eVar 9) (e2 opMul (eC (.int 2)) (eVar 6))) aNil))))) (sCons (sIf (tNot (tV (eCall cf 12 (aCons (eVar 10) (aCons (e2 opSub (e2 opMul (e2 opIx (eVar 7) (eC (.int 1))) (eCall cf 7 (aCons (eVar 5) (aCons (eVar 8) (aCons (e2 opAdd (eVar 9) (eVar 6)) aNil))))) (eCall cf 7 (aCons (eVar 5) (aCons (eVar 8) (aCons (eVar 9) aNil))))) aNil))))) (sCons (sRet (eC (.bl false))) sNil) sNil) sNil))))))))))) (sCons (sRet (eC (.bl true))) sNil))
def tab : List FD := [⟨1, 1, b_is_integer⟩, ⟨1, 2, b_check_integers⟩, ⟨1, 4, b_minus_continuant⟩, ⟨2, 10, b_times⟩, ⟨1, 3, b_matrix_of⟩, ⟨1, 2, b_check_period⟩, ⟨3, 4, b_items⟩, ⟨3, 3, b_entry⟩, ⟨2, 3, b_growth⟩, ⟨2, 4, b_growths⟩, ⟨2, 2, b__law_cell⟩, ⟨2, 3, b__law_rich⟩, ⟨2, 4, b__law_same⟩, ⟨2, 8, b__law_trace⟩, ⟨1, 13, b_law⟩]
-- 0 is_integer
-- 1 check_integers
-- 2 minus_continuant
-- 3 times
-- 4 matrix_of
-- 5 check_period
-- 6 items
-- 7 entry
-- 8 growth
-- 9 growths
-- 10 _law_cell
-- 11 _law_rich
-- 12 _law_same
-- 13 _law_trace
-- 14 law
end L_k12
end
section
set_option linter.all false
set_option maxRecDepth 100000
set_option maxHeartbeats 4000000
namespace L_k12
open PySem Mi
theorem c_is_integer (n : Nat) (μ : Hq) (i : Int) : callF tab (n + 1) 0 [.int i] μ = .ok (vb true) μ := rfl
theorem pure1 (xs : List Int) : D.pures [.tup (xs.map D.int)] = true := by
  show (D.pures (xs.map D.int) && true) = true
  rw [pures_ints]; rfl
theorem pure2 (xs : List Int) (i : Int) : D.pures [.tup (xs.map D.int), .int i] = true := pure1 xs
theorem pure3 (xs : List Int) (i j : Int) : D.pures [.tup (xs.map D.int), .int i, .int j] = true := pure1 xs
theorem dep_ints (n : Nat) (xs : List Int) : D.dep (n + 1) (.tup (xs.map D.int)) = true := by
  show (xs.map D.int).all (D.dep n) = true
  rw [List.all_eq_true]
  intro d hd
  obtain ⟨i, _, rfl⟩ := List.mem_map.mp hd
  cases n <;> rfl
theorem all2_ints (n : Nat) : ∀ xs ys : List Int, all2 (D.eqv n) (xs.map D.int) (ys.map D.int) = decide (xs = ys)
  | [], [] => rfl
  | [], y :: ys => rfl
  | x :: xs, [] => rfl
  | x :: xs, y :: ys => by
    show (D.eqv n (.int x) (.int y) && all2 (D.eqv n) (xs.map D.int) (ys.map D.int)) = _
    rw [all2_ints n xs ys, show D.eqv n (.int x) (.int y) = decide (x = y) by cases n <;> rfl]
    by_cases h1 : x = y <;> by_cases h2 : xs = ys <;> simp [h1, h2]
theorem dat_ints (μ : Hq) (xs : List Int) : dat μ (.val (.tup (xs.map D.int))) = some (.tup (xs.map D.int)) := by
  show (if D.dep depth (.tup (xs.map D.int)) = true then _ else _) = _
  exact if_pos (dep_ints 39 xs)
theorem eq_ints (μ : Hq) (xs ys : List Int) : opEq (.val (.tup (xs.map D.int))) (.val (.tup (ys.map D.int))) μ = .ok (vb (decide (xs = ys))) μ := by
  unfold opEq
  have : eqTv (.val (.tup (xs.map D.int))) (.val (.tup (ys.map D.int))) μ = some (decide (xs = ys)) := by
    show (match dat μ (.val (.tup (xs.map D.int))), dat μ (.val (.tup (ys.map D.int))) with | some a, some b => some (D.eqv depth a b) | _, _ => none) = _
    rw [dat_ints, dat_ints]
    show some (all2 (D.eqv 39) (xs.map D.int) (ys.map D.int)) = _
    rw [all2_ints]
  rw [this]
theorem len_ints (μ : Hq) (xs : List Int) : opLen (.val (.tup (xs.map D.int))) μ = .ok (vi xs.length) μ := by
  show R.ok (vi (xs.map D.int).length) μ = _
  rw [List.length_map]
/-- all([is_integer(item) for item in row]) -/
theorem all_int (n : Nat) (xs : List Int) (hl : xs.length ≤ 1000000) (r : List (Option D)) (μ : Hq) : e1 opAll (eLc [1] (gN 1) (iE (eVar 0)) tYs (eCall (callF tab (n + 1)) 0 (aCons (eVar 1) aNil))) (some (.tup (xs.map D.int)) :: none :: r) μ = .ok (vb true) μ := by
  have hb : bls (xs.map fun _ => D.bl true) = some (xs.map fun _ => true) := bls_of (fun _ => true) xs
  refine q1 (qlc (it := ⟨xs.map D.int, none⟩) rfl (lcGo_of D.int (fun _ => D.bl true) xs fun x _ => ⟨_, rfl, c_is_integer n μ x⟩) (by simpa using hl)) ?_
  show (match bls (xs.map fun _ => D.bl true) with | some bs => R.ok (vb (bs.all id)) μ | none => .fail) = _
  rw [hb]
  show R.ok (vb ((xs.map fun _ => true).all id)) μ = _
  rw [show (xs.map fun _ => true).all id = true by simp]
theorem c_check_integers (n : Nat) (μ : Hq) (xs : List Int) (hl : xs.length ≤ 1000000) : callF tab (n + 2) 1 [.tup (xs.map D.int)] μ = .ok (.val .non) μ := by
  refine call_non (fd := ⟨1, 2, b_check_integers⟩) (ρ' := [some (.tup (xs.map D.int)), none]) (μ' := []) rfl rfl (pure1 xs) ?_
  exact sc (sif0 (tor0 (tn1 (tv rfl rfl)) (tn1 (tb (all_int n xs hl [] [])))) rfl) rfl
theorem c_check_period (n : Nat) (μ : Hq) (xs : List Int) (h0 : xs ≠ []) (hl : xs.length ≤ 30) : callF tab (n + 2) 5 [.tup (xs.map D.int)] μ = .ok (.val .non) μ := by
  refine call_non (fd := ⟨1, 2, b_check_period⟩) (ρ' := [some (.tup (xs.map D.int)), none]) (μ' := []) rfl rfl (pure1 xs) ?_
  refine sc (sif0 (tor0 (tn1 (tv rfl rfl)) (tn1 (tb (all_int n xs (by omega) [] [])))) rfl) (sc (sif0 (tor0 (μ1 := []) (tb (q2 rfl rfl ?_)) (tb (q2 (q1 rfl (len_ints [] xs)) rfl ?_))) rfl) rfl)
  · have := eq_ints [] xs []
    rw [decide_eq_false h0] at this
    exact this
  · show R.ok (vb (decide ((30 : Int) < xs.length))) [] = _
    rw [decide_eq_false (by omega)]
/-! minus_continuant -/
def contS (xs : List Int) : Int × Int := xs.foldl (fun p x => (p.2, x * p.2 - p.1)) (0, 1)
def cont (xs : List Int) : Int := (contS xs).2
theorem mul_small {i j : Int} (h : i.natAbs < 18446744073709551616) (μ : Hq) : opMul (vi i) (vi j) μ = .ok (vi (i * j)) μ := by
  show (if mulOk i j = true then _ else _) = _
  refine if_pos ?_
  unfold mulOk
  rw [decide_eq_true h]; rfl
theorem mul_small' {i j : Int} (h : j.natAbs < 18446744073709551616) (μ : Hq) : opMul (vi i) (vi j) μ = .ok (vi (i * j)) μ := by
  show (if mulOk i j = true then _ else _) = _
  refine if_pos ?_
  unfold mulOk
  rw [decide_eq_true h]; simp
/-- items of a row -/
def Sm (xs : List Int) : Prop := xs.length ≤ 1000000 ∧ ∀ x ∈ xs, x.natAbs < 18446744073709551616
theorem c_minus_continuant (n : Nat) (μ : Hq) (xs : List Int) (hs : Sm xs) : callF tab (n + 3) 2 [.tup (xs.map D.int)] μ = .ok (vi (cont xs)) μ := by
  let E : List Int → Ev := fun pre => [some (.tup (xs.map D.int)), some (.int (contS pre).1), some (.int (contS pre).2), if pre = [] then none else some (.int (pre.getLastD 0))]
  refine call_val (fd := ⟨1, 4, b_minus_continuant⟩) (ρ' := E xs) (μ' := []) rfl rfl (pure1 xs) rfl ?_
  refine sc (sexp (qc (qa rfl qn) (c_check_integers n [] xs hs.1))) (sc (sasg rfl rfl) (sc (sfor0 (xs := xs.map D.int) rfl (?_ : foGo _ _ (xs.map D.int) (E []) [] = .ok .nx (E xs) [])) (sr_rt (sret rfl))))
  refine fo_mem D.int E xs (fun pre x post e => ?_) xs [] rfl
  refine ⟨[some (.tup (xs.map D.int)), some (.int (contS pre).1), some (.int (contS pre).2), some (.int x)], rfl, ?_⟩
  have hx : x.natAbs < 18446744073709551616 := hs.2 x (by rw [e]; simp)
  refine (sc (spar (qa rfl (qa (q2 (q2 rfl rfl (mul_small hx _)) rfl rfl) qn))) rfl).trans ?_
  show RS.ok .nx _ _ = RS.ok .nx (E (pre ++ [x])) _
  simp [E, contS, List.foldl_append]
end L_k12
end
section
set_option linter.all false
set_option maxRecDepth 100000
set_option maxHeartbeats 4000000
namespace L_k12
open PySem Mi
/-! the mathematics: matrices -/
structure M2 where
  a : Int
  b : Int
  c : Int
  d : Int
  deriving DecidableEq
def M2.one : M2 := ⟨1, 0, 0, 1⟩
def M2.mul (m k : M2) : M2 := ⟨m.a * k.a + m.b * k.c, m.a * k.b + m.b * k.d, m.c * k.a + m.d * k.c, m.c * k.b + m.d * k.d⟩
def M2.it (x : Int) : M2 := ⟨x, -1, 1, 0⟩
def M2.tr (m : M2) : Int := m.a + m.d
def M2.det (m : M2) : Int := m.a * m.d - m.b * m.c
def mats (xs : List Int) : M2 := xs.foldl (fun m x => m.mul (M2.it x)) M2.one
theorem M2.mul_assoc (m k l : M2) : (m.mul k).mul l = m.mul (k.mul l) := by
  unfold M2.mul; simp only [M2.mk.injEq]; refine ⟨?_, ?_, ?_, ?_⟩ <;> grind
theorem M2.one_mul (m : M2) : M2.one.mul m = m := by
  cases m; unfold M2.mul M2.one; simp
theorem M2.mul_one (m : M2) : m.mul M2.one = m := by
  cases m; unfold M2.mul M2.one; simp
theorem foldl_mul (m : M2) : ∀ xs : List Int, xs.foldl (fun m x => m.mul (M2.it x)) m = m.mul (mats xs)
  | [] => (M2.mul_one m).symm
  | x :: xs => by
    show xs.foldl _ (m.mul (M2.it x)) = m.mul (xs.foldl _ (M2.one.mul (M2.it x)))
    rw [foldl_mul _ xs, foldl_mul _ xs, M2.one_mul, M2.mul_assoc]
theorem mats_append (xs ys : List Int) : mats (xs ++ ys) = (mats xs).mul (mats ys) := by
  unfold mats; rw [List.foldl_append, foldl_mul]; rfl
theorem det_mul (m k : M2) : (m.mul k).det = m.det * k.det := by
  unfold M2.mul M2.det; grind
theorem mats_snoc (xs : List Int) (x : Int) : mats (xs ++ [x]) = (mats xs).mul (M2.it x) := by
  rw [mats_append]
  show (mats xs).mul (M2.one.mul (M2.it x)) = _
  rw [M2.one_mul]
theorem det_it (x : Int) : (M2.it x).det = 1 := by unfold M2.it M2.det; simp
theorem mats_det (xs : List Int) : (mats xs).det = 1 := by
  have key : ∀ (xs : List Int) (m : M2), m.det = 1 → (xs.foldl (fun m x => m.mul (M2.it x)) m).det = 1 := by
    intro xs
    induction xs with
    | nil => intro m h; exact h
    | cons x xs ih => intro m h; exact ih _ (by rw [det_mul, h, det_it]; rfl)
  exact key xs _ rfl
theorem tr_comm (m k : M2) : (m.mul k).tr = (k.mul m).tr := by unfold M2.mul M2.tr; grind
/-- Cayley and Hamilton -/
theorem cay (m k : M2) (h : m.det = 1) : m.mul (m.mul k) = ⟨m.tr * (m.mul k).a - k.a, m.tr * (m.mul k).b - k.b, m.tr * (m.mul k).c - k.c, m.tr * (m.mul k).d - k.d⟩ := by
  unfold M2.mul M2.tr M2.det at *
  simp only [M2.mk.injEq]
  refine ⟨?_, ?_, ?_, ?_⟩ <;> grind
def rep (t : Nat) (xs : List Int) : List Int := (List.replicate t xs).flatten
theorem rep_succ (t : Nat) (xs : List Int) : rep (t + 1) xs = xs ++ rep t xs := by unfold rep; rw [List.replicate_succ, List.flatten_cons]
/-- the growths -/
def gr (xs : List Int) (t : Nat) : Int := (mats (rep t xs)).tr
theorem gr_rec (xs : List Int) (t : Nat) : gr xs (t + 2) = gr xs 1 * gr xs (t + 1) - gr xs t := by
  unfold gr
  have h1 : rep 1 xs = xs := by unfold rep; simp
  rw [h1, rep_succ (t + 1), mats_append, rep_succ t, mats_append, cay _ _ (mats_det xs)]
  unfold M2.tr
  dsimp only
  grind
theorem gr_zero (xs : List Int) : gr xs 0 = 2 := by unfold gr rep mats M2.tr M2.one; simp
/-- the continuant is a number of the matrix -/
theorem contS_mats (xs : List Int) : (mats xs).a = (contS xs).2 ∧ (mats xs).b = -(contS xs).1 := by
  have key : ∀ (xs : List Int) (m : M2) (p : Int × Int), m.a = p.2 → m.b = -p.1 → (xs.foldl (fun m x => m.mul (M2.it x)) m).a = (xs.foldl (fun p x => (p.2, x * p.2 - p.1)) p).2 ∧ (xs.foldl (fun m x => m.mul (M2.it x)) m).b = -(xs.foldl (fun p x => (p.2, x * p.2 - p.1)) p).1 := by
    intro xs
    induction xs with
    | nil => intro m p h1 h2; exact ⟨h1, h2⟩
    | cons x xs ih =>
      intro m p h1 h2
      refine ih _ _ ?_ ?_
      · show m.a * x + m.b * 1 = _
        rw [h1, h2]; simp only; grind
      · show m.a * (-1) + m.b * 0 = _
        rw [h1]; simp
  exact key xs _ _ rfl rfl
/-- the item behind a place, around -/
def at_ (xs : List Int) (p : Int) : Int := xs.getD (p % xs.length).toNat 0
/-- s items from p on -/
def seg (xs : List Int) (p : Int) (s : Nat) : List Int := (List.range s).map fun k => at_ xs (p + (k : Nat))
theorem seg_append (xs : List Int) (p : Int) (s t : Nat) : seg xs p (s + t) = seg xs p s ++ seg xs (p + s) t := by
  unfold seg
  rw [List.range_add, List.map_append, List.map_map]
  congr 1
  apply List.map_congr_left
  intro k _
  simp only [Function.comp]
  congr 1
  omega
theorem at_period (xs : List Int) (p : Int) : at_ xs (p + xs.length) = at_ xs p := by
  unfold at_
  rw [Int.add_emod_right]
theorem seg_period (xs : List Int) (p : Int) (s : Nat) : seg xs (p + xs.length) s = seg xs p s := by
  unfold seg
  apply List.map_congr_left
  intro k _
  rw [show p + (xs.length : Int) + (k : Nat) = p + (k : Nat) + xs.length by omega, at_period]
theorem seg_succ (xs : List Int) (p : Int) (s : Nat) : seg xs p (s + 1) = at_ xs p :: seg xs (p + 1) s := by
  have := seg_append xs p 1 s
  rw [Nat.add_comm 1 s] at this
  rw [this]
  show [at_ xs (p + 0)] ++ _ = _
  simp
theorem seg_zero_all (xs : List Int) : seg xs 0 xs.length = xs := by
  unfold seg
  apply List.ext_getElem
  · simp
  · intro i h1 h2
    simp only [List.getElem_map, List.getElem_range]
    unfold at_
    have : ((0 + (i : Nat) : Int) % (xs.length : Nat)).toNat = i := by
      rw [Int.zero_add, Int.emod_eq_of_lt (by omega) (by omega)]; simp
    rw [this, List.getD_eq_getElem?_getD, List.getElem?_eq_getElem h2]; rfl
/-- the trace of a period does not hang on where it begins -/
theorem tr_seg (xs : List Int) (h0 : xs ≠ []) : ∀ k : Nat, (mats (seg xs k xs.length)).tr = (mats xs).tr
  | 0 => by rw [show ((0 : Nat) : Int) = 0 from rfl, seg_zero_all]
  | k + 1 => by
    obtain ⟨n, hn⟩ : ∃ n, xs.length = n + 1 := ⟨xs.length - 1, by have := List.length_pos_iff.mpr h0; omega⟩
    have ih := tr_seg xs h0 k
    have e1 : seg xs k xs.length = at_ xs k :: seg xs (k + 1) n := by rw [hn, seg_succ]
    have e2 : seg xs ((k + 1 : Nat) : Int) xs.length = seg xs (k + 1) n ++ [at_ xs k] := by
      rw [hn, seg_append xs _ n 1]
      have : seg xs (((k + 1 : Nat) : Int) + (n : Nat)) 1 = [at_ xs k] := by
        rw [show ((k + 1 : Nat) : Int) + (n : Nat) = (k : Int) + xs.length by omega, seg_period]
        show [at_ xs ((k : Int) + 0)] = _
        simp
      rw [this]
      congr 1
    rw [e1] at ih
    rw [e2, mats_append, tr_comm, ← mats_append, ← ih]
    rfl
/-- the number s steps from p on -/
def ent (xs : List Int) (p : Int) (s : Nat) : Int := if s = 0 then 0 else cont (seg xs (p + 1) (s - 1))
theorem ent_b (xs : List Int) (p : Int) (s : Nat) : ent xs p s = -(mats (seg xs (p + 1) s)).b := by
  unfold ent
  cases s with
  | zero => rfl
  | succ s =>
    rw [if_neg (by omega), Nat.add_sub_cancel, seg_append xs _ s 1]
    rw [show seg xs (p + 1 + (s : Nat)) 1 = [at_ xs (p + 1 + s)] by show [at_ xs (p + 1 + s + 0)] = _; simp]
    rw [mats_snoc]
    show cont _ = -((mats (seg xs (p + 1) s)).a * (-1) + (mats (seg xs (p + 1) s)).b * 0)
    rw [(contS_mats _).1]
    unfold cont
    simp
/-- each number is the growth times the one a round ahead less the one two rounds ahead of it -/
theorem ent_rec (xs : List Int) (h0 : xs ≠ []) (p s : Nat) : ent xs p (s + 2 * xs.length) = gr xs 1 * ent xs p (s + xs.length) - ent xs p s := by
  rw [ent_b, ent_b, ent_b]
  have e1 : seg xs ((p : Int) + 1) (s + xs.length) = seg xs (p + 1) xs.length ++ seg xs (p + 1) s := by
    rw [Nat.add_comm, seg_append, seg_period]
  have e2 : seg xs ((p : Int) + 1) (s + 2 * xs.length) = seg xs (p + 1) xs.length ++ (seg xs (p + 1) xs.length ++ seg xs (p + 1) s) := by
    rw [show s + 2 * xs.length = xs.length + (xs.length + s) by omega, seg_append, seg_period, seg_append, seg_period]
  rw [e1, e2, mats_append, mats_append, cay _ _ (mats_det _)]
  have ht : (mats (seg xs ((p : Int) + 1) xs.length)).tr = gr xs 1 := by
    have := tr_seg xs h0 (p + 1)
    rw [show ((p + 1 : Nat) : Int) = (p : Int) + 1 by omega] at this
    rw [this]
    unfold gr rep; simp
  rw [ht]
  dsimp only
  grind
end L_k12
end
section
set_option linter.all false
set_option maxRecDepth 100000
set_option maxHeartbeats 4000000
namespace L_k12
open PySem Mi
def M2.D (m : M2) : D := .tup [.int m.a, .int m.b, .int m.c, .int m.d]
theorem c_times (n : Nat) (μ : Hq) (m k : M2) (h1 : k.a.natAbs < 18446744073709551616) (h2 : k.b.natAbs < 18446744073709551616) (h3 : k.c.natAbs < 18446744073709551616) (h4 : k.d.natAbs < 18446744073709551616) :
    callF tab (n + 1) 3 [m.D, k.D] μ = .ok (.val (m.mul k).D) μ := by
  refine call_val (fd := ⟨2, 10, b_times⟩) (μ' := []) (ρ' := [some m.D, some k.D, some (.int m.a), some (.int m.b), some (.int m.c), some (.int m.d), some (.int k.a), some (.int k.b), some (.int k.c), some (.int k.d)]) rfl rfl rfl rfl ?_
  show b_times (callF tab n) [some m.D, some k.D, none, none, none, none, none, none, none, none] [] = _
  unfold b_times
  refine pasg (v := m.D) (ρ2 := [some m.D, some k.D, some (.int m.a), some (.int m.b), some (.int m.c), some (.int m.d), none, none, none, none]) rfl rfl (pasg (v := k.D) (ρ2 := [some m.D, some k.D, some (.int m.a), some (.int m.b), some (.int m.c), some (.int m.d), some (.int k.a), some (.int k.b), some (.int k.c), some (.int k.d)]) rfl rfl (pret (ptup (ds := [.int (m.a * k.a + m.b * k.c), .int (m.a * k.b + m.b * k.d), .int (m.c * k.a + m.d * k.c), .int (m.c * k.b + m.d * k.d)]) ?_ (by simp))))
  exact pa (p2 (p2 rfl rfl (mul_small' h1 _)) (p2 rfl rfl (mul_small' h3 _)) rfl) (pa (p2 (p2 rfl rfl (mul_small' h2 _)) (p2 rfl rfl (mul_small' h4 _)) rfl) (pa (p2 (p2 rfl rfl (mul_small' h1 _)) (p2 rfl rfl (mul_small' h3 _)) rfl) (pa (p2 (p2 rfl rfl (mul_small' h2 _)) (p2 rfl rfl (mul_small' h4 _)) rfl) pn)))
theorem c_matrix_of (n : Nat) (μ : Hq) (xs : List Int) (hs : Sm xs) : callF tab (n + 3) 4 [.tup (xs.map D.int)] μ = .ok (.val (mats xs).D) μ := by
  let E : List Int → Ev := fun pre => [some (.tup (xs.map D.int)), some (mats pre).D, if pre = [] then none else some (.int (pre.getLastD 0))]
  refine call_val (fd := ⟨1, 3, b_matrix_of⟩) (ρ' := E xs) (μ' := []) rfl rfl (pure1 xs) rfl ?_
  show b_matrix_of (callF tab (n + 2)) [some (.tup (xs.map D.int)), none, none] [] = _
  unfold b_matrix_of
  refine pexp (pc (pa rfl pn) (c_check_integers n [] xs hs.1)) (pset (v := M2.one.D) rfl (pfor (xs := xs.map D.int) (ρ1 := E xs) rfl (?_ : foGo _ _ (xs.map D.int) (E []) [] = .ok .nx (E xs) []) (pret rfl)))
  refine fo_mem D.int E xs (fun pre x post e => ?_) xs [] rfl
  refine ⟨[some (.tup (xs.map D.int)), some (mats pre).D, some (.int x)], rfl, ?_⟩
  have hx : x.natAbs < 18446744073709551616 := hs.2 x (by rw [e]; simp)
  refine (pset (v := ((mats pre).mul (M2.it x)).D) (pc (pa rfl (pa (v := (M2.it x).D) rfl pn)) (c_times (n + 1) [] (mats pre) (M2.it x) hx (by show (-1 : Int).natAbs < _; decide) (by show (1 : Int).natAbs < _; decide) (by show (0 : Int).natAbs < _; decide))) rfl).trans ?_
  show RS.ok .nx _ _ = RS.ok .nx (E (pre ++ [x])) _
  simp [E, mats_snoc]
theorem rep_sm {xs : List Int} (hs : Sm xs) (hl : xs.length ≤ 30) (t : Nat) (ht : t ≤ 30) : Sm (rep t xs) := by
  constructor
  · unfold rep
    rw [List.length_flatten]
    simp
    have : t * xs.length ≤ 30 * 30 := Nat.mul_le_mul ht hl
    omega
  · intro x hx
    unfold rep at hx
    obtain ⟨l, hl, hx⟩ := List.mem_flatten.mp hx
    rw [(List.mem_replicate.mp hl).2] at hx
    exact hs.2 x hx
theorem rep_map (t : Nat) (xs : List Int) : (List.replicate t (xs.map D.int)).flatten = (rep t xs).map D.int := by
  unfold rep
  rw [List.map_flatten, List.map_replicate]
theorem c_growth (n : Nat) (μ : Hq) (xs : List Int) (h0 : xs ≠ []) (hl : xs.length ≤ 30) (hs : Sm xs) (t : Nat) (ht : t ≤ 13) : callF tab (n + 4) 8 [.tup (xs.map D.int), .int (t : Nat)] μ = .ok (vi (gr xs t)) μ := by
  refine call_val (fd := ⟨2, 3, b_growth⟩) (μ' := []) (ρ' := [some (.tup (xs.map D.int)), some (.int (t : Nat)), some (mats (rep t xs)).D]) rfl rfl (pure2 xs _) rfl ?_
  have hp : (t : Int) * (xs.length : Int) ≤ 13 * 30 := by
    have a1 : t * xs.length ≤ 13 * 30 := Nat.mul_le_mul ht hl
    exact_mod_cast a1
  show b_growth (callF tab (n + 3)) [some (.tup (xs.map D.int)), some (.int (t : Nat)), none] [] = _
  unfold b_growth
  refine pexp (pc (pa rfl pn) (c_check_period (n + 1) [] xs h0 hl)) (pskip (ptor0 (ptn1 (ptb (pc (pa rfl pn) (c_is_integer (n + 2) [] _)))) (ptor0 (ptb (p2 rfl rfl ?_)) (ptb (p2 (p2 rfl (p1 rfl (len_ints [] xs)) (mul_small (by omega) _)) rfl ?_)))) (pset (pc (pa (v := .tup ((rep t xs).map D.int)) (p2 rfl rfl ?_) pn) (c_matrix_of n [] _ (rep_sm hs hl t (by omega)))) (pret (p2 rfl rfl rfl))))
  · show R.ok (vb (decide ((t : Int) < 0))) [] = _
    rw [decide_eq_false (by omega)]
  · show R.ok (vb (decide ((400 : Int) < (t : Int) * (xs.length : Int)))) [] = _
    rw [decide_eq_false (by omega)]
  · show (if (0 : Int) ≤ t ∧ (t : Int) ≤ 1000 ∧ (xs.map D.int).length ≤ 1000 then R.ok (Tv.val (D.tup (List.replicate (t : Int).toNat (xs.map D.int)).flatten)) [] else .fail) = _
    rw [if_pos ⟨by omega, by omega, by simpa using (by omega : xs.length ≤ 1000)⟩, Int.toNat_natCast, rep_map]
end L_k12
end
section
set_option linter.all false
set_option maxRecDepth 100000
set_option maxHeartbeats 4000000
namespace L_k12
open PySem Mi
theorem pure_tup (xs : List Int) : D.pure (.tup (xs.map D.int)) = true := by
  show D.pures (xs.map D.int) = true
  exact pures_ints xs
theorem ix_at (xs : List Int) (h0 : xs ≠ []) (q : Int) (μ : Hq) : opIx (.val (.tup (xs.map .int))) (vi (q % xs.length)) μ = .ok (vi (at_ xs q)) μ := by
  have hp := List.length_pos_iff.mpr h0
  have h1 : 0 ≤ q % (xs.length : Int) := Int.emod_nonneg _ (by omega)
  have h2 : q % (xs.length : Int) < xs.length := Int.emod_lt_of_pos _ (by omega)
  have e : q % (xs.length : Int) = ((q % (xs.length : Int)).toNat : Nat) := by omega
  have hj : (q % (xs.length : Int)).toNat < xs.length := by omega
  rw [e]
  refine (ix_tup (d := .int (at_ xs q)) ?_ μ)
  unfold at_
  simp [hj, List.getD_eq_getElem?_getD]
theorem at_mem (xs : List Int) (h0 : xs ≠ []) (q : Int) : at_ xs q ∈ xs := by
  have hp := List.length_pos_iff.mpr h0
  have h1 : 0 ≤ q % (xs.length : Int) := Int.emod_nonneg _ (by omega)
  have h2 : q % (xs.length : Int) < xs.length := Int.emod_lt_of_pos _ (by omega)
  have hj : (q % (xs.length : Int)).toNat < xs.length := by omega
  unfold at_
  rw [List.getD_eq_getElem?_getD, List.getElem?_eq_getElem hj]
  exact List.getElem_mem _
theorem seg_sm (xs : List Int) (h0 : xs ≠ []) (hs : Sm xs) (p : Int) (s : Nat) (h : s ≤ 1000000) : Sm (seg xs p s) := by
  constructor
  · unfold seg; simpa using h
  · intro x hx
    unfold seg at hx
    obtain ⟨k, _, rfl⟩ := List.mem_map.mp hx
    exact hs.2 _ (at_mem xs h0 _)
theorem c_items (n : Nat) (μ : Hq) (xs : List Int) (h0 : xs ≠ []) (p : Int) (s : Nat) (h : s < 1000000) : callF tab (n + 1) 6 [.tup (xs.map D.int), .int p, .int (s : Nat)] μ = .ok (.val (.tup ((seg xs p s).map D.int))) μ := by
  refine call_v (B := b_items) (μ' := []) (ρ' := [some (.tup (xs.map D.int)), some (.int p), some (.int (s : Nat)), none]) [some (.tup (xs.map D.int)), some (.int p), some (.int (s : Nat)), none] rfl rfl rfl (pure3 xs _ _) (pure_tup _) ?_
  unfold b_items
  refine pret ?_
  refine (tup_range (n := s) (fun k => D.int (at_ xs (p + (k : Nat)))) rfl h fun k hk => ?_).trans ?_
  · exact p2 rfl (p2 (p2 rfl rfl rfl) (p1 rfl (len_ints [] xs)) (modP (by have := List.length_pos_iff.mpr h0; omega) [])) (ix_at xs h0 _ [])
  · unfold seg
    rw [List.map_map]; rfl
theorem c_entry (n : Nat) (μ : Hq) (xs : List Int) (h0 : xs ≠ []) (hl : xs.length ≤ 30) (hs : Sm xs) (p s : Nat) (h : s ≤ 400) : callF tab (n + 4) 7 [.tup (xs.map D.int), .int (p : Nat), .int (s : Nat)] μ = .ok (vi (ent xs p s)) μ := by
  refine call_val (fd := ⟨3, 3, b_entry⟩) (μ' := []) (ρ' := [some (.tup (xs.map D.int)), some (.int (p : Nat)), some (.int (s : Nat))]) rfl rfl (pure3 xs _ _) rfl ?_
  show b_entry (callF tab (n + 3)) [some (.tup (xs.map D.int)), some (.int (p : Nat)), some (.int (s : Nat))] [] = _
  unfold b_entry
  refine pexp (pc (pa rfl pn) (c_check_period (n + 1) [] xs h0 hl)) (pskip (ptor0 (ptn1 (ptb (pc (pa rfl pn) (c_is_integer (n + 2) [] _)))) (ptor0 (ptn1 (ptb (pc (pa rfl pn) (c_is_integer (n + 2) [] _)))) (ptor0 (ptb (p2 rfl rfl (lt0 (by omega) _))) (ptb (p2 rfl rfl (gt0 (by omega) _)))))) (pret ?_))
  cases s with
  | zero => exact pif0 (ptb (p2 rfl rfl (gt0 (by omega) _))) rfl
  | succ s =>
    have e : ((s + 1 : Nat) : Int) - 1 = (s : Nat) := by omega
    refine pif1 (ptb (p2 rfl rfl (gt1 (by omega) _))) (pc (pa (pc (pa rfl (pa (p2 rfl rfl rfl) (pa (v := .int (s : Nat)) (p2 rfl rfl (by show R.ok (vi (((s + 1 : Nat) : Int) - 1)) [] = _; rw [e]; rfl)) pn))) (c_items (n + 2) [] xs h0 _ s (by omega))) pn) ((c_minus_continuant n [] _ (seg_sm xs h0 hs _ s (by omega))).trans ?_))
    unfold ent
    rw [if_neg (by omega)]; rfl
theorem papp {o e : EF} {ρ : Ev} {μ : Hq} {r : Nat} {v : D} {xs : List D} (h1 : o ρ μ = .ok (.val (.ref r)) μ) (h2 : e ρ μ = .ok (.val v) μ) (h3 : μ[r]? = some (.lst xs)) (h4 : xs.length ≤ 1000000) : eApp o e ρ μ = .ok (.val .non) (μ.set r (.lst (xs ++ [v]))) := by
  unfold eApp
  rw [h1, bind_ok]
  show (match (μ[r]?).bind Ob.seq with | some _ => _ | none => _) = _
  rw [h3]
  show (e ρ μ).bind _ = _
  rw [h2, bind_ok]
  show (match μ[r]? with | some (.lst xs) => cap xs.length (R.ok (Tv.val .non) (μ.set r (.lst (xs ++ [v])))) | _ => .fail) = _
  rw [h3]
  exact if_pos h4
theorem at_back {xs : List D} {j : Nat} {d : D} (hj : 0 < j) (hl : j ≤ xs.length) (h : xs[xs.length - j]? = some d) : at? xs (-(j : Nat)) = some d := by
  unfold at? ixq
  rw [if_neg (by omega), if_pos (by omega)]
  have : (-(j : Int) + (xs.length : Int)).toNat = xs.length - j := by omega
  simp only [this]
  exact h
theorem ix_ref_back {xs : List D} {r j : Nat} {d : D} {μ : Hq} (h3 : μ[r]? = some (.lst xs)) (hj : 0 < j) (hl : j ≤ xs.length) (h : xs[xs.length - j]? = some d) : opIx (.val (.ref r)) (vi (-(j : Nat))) μ = .ok (.val d) μ := by
  show (match (μ[r]?).bind Ob.seq with | some xs => (match at? xs (-(j : Nat)) with | some d => R.ok (Tv.val d) μ | none => .fail) | none => .fail) = _
  rw [h3]
  show (match at? xs (-(j : Nat)) with | some d => R.ok (Tv.val d) μ | none => .fail) = _
  rw [at_back hj hl h]
def grs (xs : List Int) (n : Nat) : List Int := (List.range n).map (gr xs)
theorem c_growths (n : Nat) (μ : Hq) (xs : List Int) (h0 : xs ≠ []) (hl : xs.length ≤ 30) (hs : Sm xs) (hg : (gr xs 1).natAbs < 18446744073709551616) : callF tab (n + 5) 9 [.tup (xs.map D.int), .int 9] μ = .ok (.val (.tup ((grs xs 9).map D.int))) μ := by
  let S : Nat → Ev := fun _ => [some (.tup (xs.map D.int)), some (.int 9), some (.int (gr xs 1)), some (.ref 0)]
  let M : Nat → Hq := fun k => [.lst ((grs xs (k + 2)).map D.int)]
  refine call_val (fd := ⟨2, 4, b_growths⟩) (μ' := M 7) (ρ' := S 7) rfl rfl (pure2 xs _) (pure_tup _) ?_
  show b_growths (callF tab (n + 4)) [some (.tup (xs.map D.int)), some (.int 9), none, none] [] = _
  unfold b_growths
  have hM : M 0 = [.lst [.int 2, .int (gr xs 1)]] := by
    show [Ob.lst [.int (gr xs 0), .int (gr xs 1)]] = _
    rw [gr_zero]
  have hlen : ∀ k, e1 opLen (eVar 3) (S k) (M k) = .ok (vi ((k + 2 : Nat) : Int)) (M k) := by
    intro k
    show R.ok (vi ((grs xs (k + 2)).map D.int).length) (M k) = _
    unfold grs; simp
  have hget : ∀ k j, j < k → ((grs xs k).map D.int)[j]? = some (.int (gr xs j)) := by
    intro k j h
    unfold grs; simp [h]
  refine pset (pc (pa rfl (pa rfl pn)) (c_growth n [] xs h0 hl hs 1 (by omega))) (sc (sasgL (o := .lst [.int 2, .int (gr xs 1)]) rfl) (sc (μ1 := M 7) (ρ1 := S 7) ?_ (pret ?_)))
  · refine (?_ : sWh _ _ (S 0) (M 0) = _)
    refine wh_inv S M 7 (by omega) (fun k hk => ?_) (fun k hk => ?_) ?_
    · exact ptb (p2 (hlen k) rfl (lt1 (by omega) _))
    · have hM1 : (M k).set 0 (.lst ((grs xs (k + 2)).map D.int ++ [.int (gr xs 1 * gr xs (k + 1) - gr xs k)])) = M (k + 1) := by
        show [Ob.lst _] = [Ob.lst _]
        have : grs xs (k + 1 + 2) = grs xs (k + 2) ++ [gr xs (k + 2)] := by
          unfold grs
          rw [List.range_succ, List.map_append]; rfl
        rw [this, List.map_append, ← gr_rec]; rfl
      have h1 : opIx (.val (.ref 0)) (vi (-(1 : Nat))) (M k) = .ok (vi (gr xs (k + 1))) (M k) := by
        refine ix_ref_back (xs := (grs xs (k + 2)).map D.int) rfl (by omega) (by unfold grs; simp) ?_
        have : ((grs xs (k + 2)).map D.int).length - 1 = k + 1 := by unfold grs; simp
        rw [this]; exact hget _ _ (by omega)
      have h2 : opIx (.val (.ref 0)) (vi (-(2 : Nat))) (M k) = .ok (vi (gr xs k)) (M k) := by
        refine ix_ref_back (xs := (grs xs (k + 2)).map D.int) rfl (by omega) (by unfold grs; simp) ?_
        have : ((grs xs (k + 2)).map D.int).length - 2 = k := by unfold grs; simp
        rw [this]; exact hget _ _ (by omega)
      have hb : eApp (eVar 3) (e2 opSub (e2 opMul (eVar 2) (e2 opIx (eVar 3) (e1 opNeg (eC (D.int 1))))) (e2 opIx (eVar 3) (e1 opNeg (eC (D.int 2))))) (S k) (M k) = .ok (.val .non) (M (k + 1)) := by
        rw [← hM1]
        exact papp rfl (p2 (p2 rfl (p2 rfl rfl h1) (mul_small hg _)) (p2 rfl rfl h2) rfl) rfl (by unfold grs; simp; omega)
      exact sc (sexp hb) rfl
    · exact ptb (p2 (hlen 7) rfl (lt0 (by omega) _))
  · exact p1 (x := .new (.lst ((grs xs 9).map D.int))) rfl rfl
theorem rep_comm (k : Nat) (xs : List Int) : rep k xs ++ xs = rep (k + 1) xs := by
  induction k with
  | zero => unfold rep; simp
  | succ k ih => rw [rep_succ, List.append_assoc, ih, ← rep_succ]
theorem fo_pm {α : Type} {g : GF} {b : SF} {μ : Hq} (I : α → D) (P : List α → Ev → Prop) (all : List α) (h : ∀ pre x post, all = pre ++ x :: post → ∀ ρ, P pre ρ → ∃ ρ1 ρ2, g (I x) ρ μ = .ok ρ1 μ ∧ b ρ1 μ = .ok .nx ρ2 μ ∧ P (pre ++ [x]) ρ2) :
    ∀ (xs pre : List α), all = pre ++ xs → ∀ ρ, P pre ρ → ∃ ρ2, foGo g b (xs.map I) ρ μ = .ok .nx ρ2 μ ∧ P all ρ2
  | [], pre, e, ρ, hp => ⟨ρ, rfl, by rw [e, List.append_nil]; exact hp⟩
  | x :: xs, pre, e, ρ, hp => by
    obtain ⟨ρ1, ρ2, h1, h2, h3⟩ := h pre x xs e ρ hp
    obtain ⟨ρ3, h4, h5⟩ := fo_pm I P all h xs (pre ++ [x]) (by rw [e]; simp) ρ2 h3
    refine ⟨ρ3, ?_, h5⟩
    rw [List.map_cons]
    show ((g (I x) ρ μ).toS ρ fun ρ1 μ1 => _) = _
    rw [h1, toS_ok, h2]
    exact h4
def trE (xs : List Int) (t : Nat) (m : M2) (o1 o2 : Option D) : Ev := [some (.tup (xs.map D.int)), some (.int (t : Nat)), some (.int m.a), some (.int m.b), some (.int m.c), some (.int m.d), o1, o2]
theorem c__law_trace (n : Nat) (μ : Hq) (xs : List Int) (hs : Sm xs) (t : Nat) (ht : t < 1000) : callF tab (n + 1) 13 [.tup (xs.map D.int), .int (t : Nat)] μ = .ok (vi (gr xs t)) μ := by
  have key : ∃ ρ2, foGo (gN 6) (sCons (sFor (gN 7) (iE (eVar 0)) (sCons (sAsg (gT (gsCons (gN 2) (gsCons (gN 3) (gsCons (gN 4) (gsCons (gN 5) gsNil))))) (eTup (aCons (e2 opAdd (e2 opMul (eVar 2) (eVar 7)) (eVar 3)) (aCons (e1 opNeg (eVar 2)) (aCons (e2 opAdd (e2 opMul (eVar 4) (eVar 7)) (eVar 5)) (aCons (e1 opNeg (eVar 4)) aNil)))))) sNil)) sNil) ((List.range t).map fun k => D.int (k : Nat)) (trE xs t M2.one none none) [] = .ok .nx ρ2 [] ∧ ∃ o1 o2, ρ2 = trE xs t (mats (rep t xs)) o1 o2 := by
    have hp := fo_pm (μ := []) (g := gN 6) (b := sCons (sFor (gN 7) (iE (eVar 0)) (sCons (sAsg (gT (gsCons (gN 2) (gsCons (gN 3) (gsCons (gN 4) (gsCons (gN 5) gsNil))))) (eTup (aCons (e2 opAdd (e2 opMul (eVar 2) (eVar 7)) (eVar 3)) (aCons (e1 opNeg (eVar 2)) (aCons (e2 opAdd (e2 opMul (eVar 4) (eVar 7)) (eVar 5)) (aCons (e1 opNeg (eVar 4)) aNil)))))) sNil)) sNil) (fun k : Nat => D.int (k : Nat)) (fun pre ρ => ∃ o1 o2, ρ = trE xs t (mats (rep pre.length xs)) o1 o2) (List.range t) ?_ (List.range t) [] rfl (trE xs t M2.one none none) ⟨none, none, rfl⟩
    · simpa using hp
    · intro pre x post e ρ ⟨o1, o2, hρ⟩
      subst hρ
      refine ⟨trE xs t (mats (rep pre.length xs)) (some (.int (x : Nat))) o2, ?_⟩
      have hin := fo_pm (μ := []) (g := gN 7) (b := (sCons (sAsg (gT (gsCons (gN 2) (gsCons (gN 3) (gsCons (gN 4) (gsCons (gN 5) gsNil))))) (eTup (aCons (e2 opAdd (e2 opMul (eVar 2) (eVar 7)) (eVar 3)) (aCons (e1 opNeg (eVar 2)) (aCons (e2 opAdd (e2 opMul (eVar 4) (eVar 7)) (eVar 5)) (aCons (e1 opNeg (eVar 4)) aNil)))))) sNil)) D.int (fun p ρ => ∃ o2, ρ = trE xs t (mats (rep pre.length xs ++ p)) (some (.int (x : Nat))) o2) xs ?_ xs [] rfl (trE xs t (mats (rep pre.length xs)) (some (.int (x : Nat))) o2) ⟨o2, by rw [List.append_nil]⟩
      · obtain ⟨ρ2, h1, o3, h2⟩ := hin
        refine ⟨ρ2, rfl, sc (sfor0 rfl h1) rfl, some (.int (x : Nat)), o3, ?_⟩
        rw [h2, rep_comm]; simp
      · intro p y q e ρ ⟨o3, hρ⟩
        subst hρ
        have hy : y.natAbs < 18446744073709551616 := hs.2 y (by rw [e]; simp)
        refine ⟨trE xs t (mats (rep pre.length xs ++ p)) (some (.int (x : Nat))) (some (.int y)), trE xs t ((mats (rep pre.length xs ++ p)).mul (M2.it y)) (some (.int (x : Nat))) (some (.int y)), rfl, ?_, some (.int y), ?_⟩
        · generalize mats (rep pre.length xs ++ p) = m
          refine pasg (v := .tup [.int (m.a * y + m.b), .int (-m.a), .int (m.c * y + m.d), .int (-m.c)]) (ρ2 := [some (.tup (xs.map D.int)), some (.int (t : Nat)), some (.int (m.a * y + m.b)), some (.int (-m.a)), some (.int (m.c * y + m.d)), some (.int (-m.c)), some (.int (x : Nat)), some (.int y)]) (ptup (pa (p2 (p2 rfl rfl (mul_small' hy _)) rfl rfl) (pa (p1 rfl rfl) (pa (p2 (p2 rfl rfl (mul_small' hy _)) rfl rfl) (pa (p1 rfl rfl) pn)))) (by simp)) rfl ?_
          show RS.ok .nx _ [] = RS.ok .nx _ []
          congr 1
          unfold trE M2.mul M2.it
          simp
        · rw [← List.append_assoc, mats_snoc]
  obtain ⟨ρ2, h1, o1, o2, h2⟩ := key
  subst h2
  refine call_v (B := b__law_trace) (μ' := []) (ρ' := trE xs t (mats (rep t xs)) o1 o2) [some (.tup (xs.map D.int)), some (.int (t : Nat)), none, none, none, none, none, none] rfl rfl rfl (pure2 xs _) rfl ?_
  unfold b__law_trace
  refine pasg (v := M2.one.D) (ρ2 := trE xs t M2.one none none) rfl rfl (pfor (range1 rfl (by omega)) h1 (pret (p2 rfl rfl rfl)))
theorem same_int (n : Nat) (μ : Hq) (i j : Int) : callF tab (n + 1) 12 [.int i, .int j] μ = .ok (vb (decide (i = j))) μ := rfl
theorem same_ints (n : Nat) (μ : Hq) (xs : List Int) (hl : xs.length ≤ 1000000) : callF tab (n + 2) 12 [.tup (xs.map D.int), .tup (xs.map D.int)] μ = .ok (vb true) μ := by
  refine call_v (B := b__law_same) (μ' := []) (ρ' := [some (.tup (xs.map D.int)), some (.tup (xs.map D.int)), none, none]) [some (.tup (xs.map D.int)), some (.tup (xs.map D.int)), none, none] rfl rfl rfl ?_ rfl ?_
  · show (D.pures (xs.map D.int) && (D.pures (xs.map D.int) && true)) = true
    rw [pures_ints]; rfl
  unfold b__law_same
  refine sr_rt (psif1 (ptb rfl) (pret (pand1 rfl (pand1 (p2 (p1 rfl (len_ints [] xs)) (p1 rfl (len_ints [] xs)) (eq1 rfl _)) (all_of (fun x : Int => D.tup [.int x, .int x]) xs ?_ hl fun x _ => ⟨[some (.tup (xs.map D.int)), some (.tup (xs.map D.int)), some (.int x), some (.int x)], rfl, ?_⟩)))))
  · show R.ok (Itm.mk (zipD (xs.map D.int) (xs.map D.int)) none) [] = _
    rw [zip_ints]
  · refine pc (pa rfl (pa rfl pn)) ((same_int n [] x x).trans ?_)
    rw [decide_eq_true rfl]
/-! the sizes -/
theorem mats_bound : ∀ (xs : List Int), (∀ x ∈ xs, x.natAbs ≤ 4) → ∀ (m : M2) (K : Nat), m.a.natAbs ≤ K → m.b.natAbs ≤ K → m.c.natAbs ≤ K → m.d.natAbs ≤ K →
    (xs.foldl (fun m x => m.mul (M2.it x)) m).a.natAbs ≤ K * 5 ^ xs.length ∧ (xs.foldl (fun m x => m.mul (M2.it x)) m).d.natAbs ≤ K * 5 ^ xs.length
  | [], _, m, K, h1, h2, h3, h4 => ⟨by simpa using h1, by simpa using h4⟩
  | x :: xs, hx, m, K, h1, h2, h3, h4 => by
    have hb : ∀ a b : Int, a.natAbs ≤ K → b.natAbs ≤ K → (a * x + b * 1).natAbs ≤ K * 5 := by
      intro a b ha hb
      have e1 : (a * x).natAbs = a.natAbs * x.natAbs := Int.natAbs_mul _ _
      have e2 : a.natAbs * x.natAbs ≤ K * 4 := Nat.mul_le_mul ha (hx x List.mem_cons_self)
      omega
    have := mats_bound xs (fun y hy => hx y (List.mem_cons_of_mem _ hy)) (m.mul (M2.it x)) (K * 5) (hb _ _ h1 h2) (by show (m.a * -1 + m.b * 0).natAbs ≤ _; omega) (hb _ _ h3 h4) (by show (m.c * -1 + m.d * 0).natAbs ≤ _; omega)
    rw [List.length_cons, Nat.pow_succ, Nat.mul_comm (5 ^ xs.length) 5, ← Nat.mul_assoc]
    exact this
theorem gr_small (xs : List Int) (hl : xs.length ≤ 6) (hx : ∀ x ∈ xs, x.natAbs ≤ 4) : (gr xs 1).natAbs < 18446744073709551616 := by
  have h := mats_bound xs hx M2.one 1 (by decide) (by decide) (by decide) (by decide)
  have e : rep 1 xs = xs := by unfold rep; simp
  unfold gr M2.tr
  rw [e]
  have hp : 5 ^ xs.length ≤ 5 ^ 6 := Nat.pow_le_pow_right (by omega) hl
  have h1 : (mats xs).a.natAbs ≤ 1 * 5 ^ xs.length := h.1
  have h2 : (mats xs).d.natAbs ≤ 1 * 5 ^ xs.length := h.2
  omega
/-! the growths rise where all items are above 2 -/
def Inv3 (m : M2) : Prop := 2 ≤ m.a - m.c ∧ -(m.a - m.c) ≤ m.b - m.d ∧ m.b - m.d ≤ 0 ∧ 1 ≤ m.c ∧ -m.c ≤ m.d ∧ m.d ≤ 0 ∧ 1 ≤ m.c + m.d
theorem inv3_step (m : M2) (x : Int) (hx : 3 ≤ x) (h : Inv3 m) : Inv3 (m.mul (M2.it x)) := by
  obtain ⟨h1, h2, h3, h4, h5, h6, h7⟩ := h
  have e1 : (m.a - m.c) * 3 ≤ (m.a - m.c) * x := Int.mul_le_mul_of_nonneg_left hx (by omega)
  have e2 : m.c * 3 ≤ m.c * x := Int.mul_le_mul_of_nonneg_left hx (by omega)
  have e3 : (m.a - m.c) * x = m.a * x - m.c * x := Int.sub_mul _ _ _
  unfold Inv3 M2.mul M2.it
  dsimp only
  refine ⟨?_, ?_, ?_, ?_, ?_, ?_, ?_⟩ <;> omega
theorem inv3_fold : ∀ (xs : List Int) (m : M2), (∀ x ∈ xs, 3 ≤ x) → Inv3 m → Inv3 (xs.foldl (fun m x => m.mul (M2.it x)) m)
  | [], _, _, h => h
  | x :: xs, m, hx, h => inv3_fold xs _ (fun y hy => hx y (List.mem_cons_of_mem _ hy)) (inv3_step m x (hx x List.mem_cons_self) h)
theorem gr_big (xs : List Int) (h0 : xs ≠ []) (hx : ∀ x ∈ xs, 3 ≤ x) : 3 ≤ gr xs 1 := by
  cases xs with
  | nil => exact absurd rfl h0
  | cons x xs =>
    have h3 : 3 ≤ x := hx x List.mem_cons_self
    have := inv3_fold xs (M2.one.mul (M2.it x)) (fun y hy => hx y (List.mem_cons_of_mem _ hy)) (by
      unfold Inv3 M2.mul M2.it M2.one
      dsimp only
      refine ⟨?_, ?_, ?_, ?_, ?_, ?_, ?_⟩ <;> omega)
    have e : rep 1 (x :: xs) = x :: xs := by unfold rep; simp
    unfold gr
    rw [e]
    show 3 ≤ (xs.foldl (fun m x => m.mul (M2.it x)) (M2.one.mul (M2.it x))).tr
    obtain ⟨h1, h2, h3, h4, h5, h6, h7⟩ := this
    unfold M2.tr
    omega
theorem gr_rise (xs : List Int) (h0 : xs ≠ []) (hx : ∀ x ∈ xs, 3 ≤ x) : ∀ t : Nat, 1 ≤ gr xs t ∧ gr xs t < gr xs (t + 1)
  | 0 => by rw [gr_zero]; have := gr_big xs h0 hx; show _ ∧ _ < gr xs 1; omega
  | t + 1 => by
    have ⟨h1, h2⟩ := gr_rise xs h0 hx t
    have hb := gr_big xs h0 hx
    have e : 3 * gr xs (t + 1) ≤ gr xs 1 * gr xs (t + 1) := Int.mul_le_mul_of_nonneg_right hb (by omega)
    rw [gr_rec]
    omega
end L_k12
end
section
set_option linter.all false
set_option maxRecDepth 100000
set_option maxHeartbeats 4000000
namespace L_k12
open PySem Mi
theorem c_cell (n : Nat) (μ : Hq) (ns : List Int) (j : Nat) : callF tab (n + 1) 10 [.fl (ns.map D.int), .int (j : Nat)] μ = .ok (vi (cellv ns j)) μ := by
  obtain ⟨ρ1, μ1, h⟩ := cell_ok ns j
  refine call_v (B := b__law_cell) [some (.fl (ns.map D.int)), some (.int (j : Nat))] rfl rfl rfl ?_ rfl h
  show (D.pures (ns.map D.int) && true) = true
  rw [pures_ints]; rfl
theorem c_rich (n : Nat) (μ : Hq) (a b : Int) : callF tab (n + 1) 11 [.int a, .int b] μ = .ok (vi (richv a b)) μ := by
  obtain ⟨ρ1, μ1, h⟩ := rich_ok a b
  exact call_v (B := b__law_rich) [some (.int a), some (.int b), none] rfl rfl rfl rfl rfl h
def lowv (o : Int) : Int := ([-1, 1, 2, 3] : List Int).getD (o % 4).toNat 0
def rowv (low r : Int) (n : Nat) : List Int := (List.range n).map fun k => low + r / (3 + 5 * (k : Nat)) % (5 - low)
theorem lowv_b (o : Int) : -1 ≤ lowv o ∧ lowv o ≤ 3 ∧ ([D.int (-1), .int 1, .int 2, .int 3] : List D)[(o % 4).toNat]? = some (.int (lowv o)) := by
  unfold lowv
  have h1 : 0 ≤ o % 4 := Int.emod_nonneg _ (by decide)
  have h2 : o % 4 < 4 := Int.emod_lt_of_pos _ (by decide)
  generalize hj : (o % 4).toNat = j
  have hj4 : j < 4 := by omega
  match j, hj4 with
  | 0, _ => exact ⟨by decide, by decide, rfl⟩
  | 1, _ => exact ⟨by decide, by decide, rfl⟩
  | 2, _ => exact ⟨by decide, by decide, rfl⟩
  | 3, _ => exact ⟨by decide, by decide, rfl⟩
theorem rowv_b (low r : Int) (n : Nat) (h1 : -1 ≤ low) (h2 : low ≤ 3) : ∀ x ∈ rowv low r n, low ≤ x ∧ x ≤ 4 := by
  intro x hx
  obtain ⟨k, _, rfl⟩ := List.mem_map.mp hx
  have h3 : 0 ≤ r / (3 + 5 * (k : Nat)) % (5 - low) := Int.emod_nonneg _ (by omega)
  have h4 : r / (3 + 5 * (k : Nat)) % (5 - low) < 5 - low := Int.emod_lt_of_pos _ (by omega)
  constructor <;> omega
theorem law_true (ns : List Int) (hl : ns.length ≤ 63) : ∃ μ, callF tab 12 14 [.fl (ns.map .int)] [] = .ok (.val (.bl true)) μ := by
  refine ⟨[], ?_⟩
  let P : Ev → Prop := fun ρ => ∃ o1 o2 o3 o4 o5 o6 o7 o8 o9 o10 o11 o12, ρ = [some (.fl (ns.map D.int)), o1, o2, o3, o4, o5, o6, o7, o8, o9, o10, o11, o12]
  suffices hb : ∃ ρ2, b_law (callF tab 11) [some (.fl (ns.map D.int)), none, none, none, none, none, none, none, none, none, none, none, none] [] = .ok (.rt (vb true)) ρ2 [] by
    obtain ⟨ρ2, hb⟩ := hb
    refine call_v (B := b_law) _ rfl rfl rfl ?_ rfl hb
    show (D.pures (ns.map D.int) && true) = true
    rw [pures_ints]; rfl
  unfold b_law
  suffices hf : ∀ (B : SF), (∀ k : Nat, k < 4 → ∀ ρ, P ρ → ∃ ρ2, B (ρ.set 1 (some (.int (k : Nat)))) [] = .ok .nx ρ2 [] ∧ P ρ2) → ∃ ρ2, sCons (sFor (gN 1) (iRange1 (eC (.int 4))) B) (sCons (sRet (eC (.bl true))) sNil) [some (.fl (ns.map D.int)), none, none, none, none, none, none, none, none, none, none, none, none] [] = .ok (.rt (vb true)) ρ2 [] by
    refine hf _ ?_
    intro k hk ρ ⟨o1, o2, o3, o4, o5, o6, o7, o8, o9, o10, o11, o12, hρ⟩
    subst hρ
    have hj : (2 : Int) * (k : Nat) = ((2 * k : Nat) : Int) := by omega
    have hj' : (2 : Int) * (k : Nat) + 1 = ((2 * k + 1 : Nat) : Int) := by omega
    have ha : ∀ μ, opMul (vi 2) (vi (k : Nat)) μ = .ok (vi ((2 * k : Nat) : Int)) μ := fun μ => by rw [mul_small (by decide), hj]
    have hr := richv_nn (cellv ns (2 * k)) (2 * k : Nat)
    have ho := richv_nn (cellv ns (2 * k + 1)) (2 * k + 1 : Nat)
    generalize er : richv (cellv ns (2 * k)) (2 * k : Nat) = r at hr
    generalize eo : richv (cellv ns (2 * k + 1)) (2 * k + 1 : Nat) = o at ho
    obtain ⟨hl1, hl2, hl3⟩ := lowv_b o
    generalize el : lowv o = low at hl1 hl2 hl3
    obtain ⟨z, hz⟩ : ∃ z : Nat, 1 + o / 5 % 6 = (z : Nat) := ⟨(1 + o / 5 % 6).toNat, by omega⟩
    have hz1 : 1 ≤ z := by omega
    have hz2 : z ≤ 6 := by omega
    have hb := rowv_b low r z hl1 hl2
    have hlen : (rowv low r z).length = z := by unfold rowv; simp
    generalize ex : rowv low r z = xs at hb hlen
    have h0 : xs ≠ [] := by intro h; rw [h] at hlen; simp at hlen; omega
    have hx4 : ∀ x ∈ xs, x.natAbs ≤ 4 := fun x hx => by have := hb x hx; omega
    have hs : Sm xs := ⟨by omega, fun x hx => by have := hx4 x hx; omega⟩
    have hg := gr_small xs (by omega) hx4
    have hgl : (grs xs 9).length = 9 := by unfold grs; simp
    obtain ⟨p, hp⟩ : ∃ p : Nat, r / 7 % (z : Int) = (p : Nat) := ⟨(r / 7 % (z : Int)).toNat, by have : 0 ≤ r / 7 % (z : Int) := Int.emod_nonneg _ (by omega); omega⟩
    obtain ⟨s, hs9⟩ : ∃ s : Nat, o / 7 % 9 = (s : Nat) := ⟨(o / 7 % 9).toNat, by omega⟩
    have hs9' : s < 9 := by omega
    have hrow : ∀ (q1 q2 : List (Option D)), True := fun _ _ => trivial
    -- the row
    have hxD : xs.map D.int = (List.range z).map fun k => D.int (low + r / (3 + 5 * (k : Nat)) % (5 - low)) := by
      rw [← ex]; unfold rowv; rw [List.map_map]; rfl
    refine ⟨[some (.fl (ns.map D.int)), some (.int (k : Nat)), some (.int r), some (.int o), some (.int low), some (.tup (xs.map D.int)), some (.int (z : Nat)), some (.tup ((grs xs 9).map D.int)), some (.int (p : Nat)), some (.int (s : Nat)), some (.int (ent xs p (s + 2 * xs.length))), o11, o12], ?_, ⟨_, _, _, _, _, _, _, _, _, _, _, _, rfl⟩⟩
    refine pasg (v := .tup [.int r, .int o]) (ρ2 := [some (.fl (ns.map D.int)), some (.int (k : Nat)), some (.int r), some (.int o), o4, o5, o6, o7, o8, o9, o10, o11, o12]) (ptup (pa (pc (pa (pc (pa rfl (pa (v := .int ((2 * k : Nat) : Int)) (p2 rfl rfl (ha _)) pn)) (c_cell 10 [] ns (2 * k))) (pa (v := .int ((2 * k : Nat) : Int)) (p2 rfl rfl (ha _)) pn)) ((c_rich 10 [] _ _).trans (by rw [er]; rfl))) (pa (pc (pa (pc (pa rfl (pa (v := .int ((2 * k + 1 : Nat) : Int)) (p2 (p2 rfl rfl (ha _)) rfl rfl) pn)) (c_cell 10 [] ns (2 * k + 1))) (pa (v := .int ((2 * k + 1 : Nat) : Int)) (p2 (p2 rfl rfl (ha _)) rfl rfl) pn)) ((c_rich 10 [] _ _).trans (by rw [eo]; rfl))) pn)) (by simp)) rfl ?_
    refine pset (v := .int low) (p2 (x := .new (.lst [.int (-1), .int 1, .int 2, .int 3])) rfl (p2 rfl rfl (modP (by decide) _)) ?_) ?_
    · have : o % 4 = ((o % 4).toNat : Nat) := by omega
      rw [this]
      exact ix_new hl3 []
    refine pset (v := .tup (xs.map D.int)) ?_ ?_
    · rw [hxD]
      refine tup_range (n := z) (fun k => D.int (low + r / (3 + 5 * (k : Nat)) % (5 - low))) ?_ (by omega) fun i hi => ?_
      · rw [← hz]
        exact p2 rfl (p2 (p2 rfl rfl (divP (by decide) (by decide) _)) rfl (modP (by decide) _)) rfl
      · exact p2 rfl (p2 (p2 rfl (p2 rfl (p2 rfl rfl (mul_small (by decide) _)) rfl) (divP (by omega) (by omega) _)) (p2 rfl rfl rfl) (modP (by omega) _)) rfl
    refine pset (v := .int (z : Nat)) (p1 rfl ((len_ints [] xs).trans (by rw [hlen]; rfl))) ?_
    have hdue : ∀ (f : Nat) (e : EF) (ρ : Ev) (own : List Nat) (v : Nat), (∀ t, t < 9 → e ((Mi.wip ρ own).set v (some (.int (t : Nat)))) [] = .ok (.val (.int (gr xs t))) []) → e1 opTuple (eLc own (gN v) (iRange1 (eC (.int 9))) tYs e) ρ [] = .ok (.val (.tup ((grs xs 9).map D.int))) [] := by
      intro f e ρ own v h
      refine (tup_range (n := 9) (fun t => D.int (gr xs t)) rfl (by omega) h).trans ?_
      unfold grs; rw [List.map_map]; rfl
    refine pset (v := .tup ((grs xs 9).map D.int)) (hdue 0 _ _ _ _ fun t ht => pc (pa rfl (pa rfl pn)) (c__law_trace 10 [] xs hs t (by omega))) ?_
    refine pskip (ptor0 (ptn1 (ptb (pc (pa (pc (pa rfl (pa rfl pn)) (c_growths 6 [] xs h0 (by omega) hs hg)) (pa rfl pn)) (same_ints 9 [] _ (by omega))))) (ptn1 (ptb (pc (pa (hdue 0 _ _ _ _ fun t ht => pc (pa rfl (pa rfl pn)) (c_growth 7 [] xs h0 (by omega) hs t (by omega))) (pa rfl pn)) (same_ints 9 [] _ (by omega)))))) ?_
    have hgx : ∀ (t : Nat), t < 9 → ∀ μ, opIx (.val (.tup ((grs xs 9).map D.int))) (vi (t : Nat)) μ = .ok (vi (gr xs t)) μ := by
      intro t ht μ
      refine ix_tup ?_ μ
      unfold grs; simp [ht]
    refine pskip ?_ ?_
    · by_cases h3 : 2 < low
      · refine ptand1 (ptb (p2 rfl rfl (gt1 h3 _))) (ptb (any_range (n := 8) rfl (by omega) fun t ht => ?_))
        refine p2 (p2 rfl rfl (hgx t (by omega) _)) (p2 (y := vi ((t + 1 : Nat) : Int)) rfl (p2 rfl rfl rfl) (hgx (t + 1) (by omega) _)) (ge0 ?_ _)
        have := gr_rise xs h0 (fun x hx => by have := hb x hx; omega) t
        omega
      · exact ptand0 (ptb (p2 rfl rfl (gt0 h3 _)))
    refine ppar (v := .int (p : Nat)) (w := .int (s : Nat)) (pa (p2 (p2 rfl rfl (divP (by decide) (by decide) _)) rfl ((modP (by omega) _).trans (by rw [hp]; rfl))) (pa (p2 (p2 rfl rfl (divP (by decide) (by decide) _)) rfl ((modP (by decide) _).trans (by rw [hs9]; rfl))) pn)) ?_
    have hz' : xs.length = z := hlen
    refine pset (v := .int (ent xs p (s + 2 * xs.length))) (pc (pa rfl (pa rfl (pa (v := .int ((s + 2 * xs.length : Nat) : Int)) (p2 rfl (p2 rfl rfl (mul_small (by decide) _)) ?_) pn))) (c_entry 7 [] xs h0 (by omega) hs p (s + 2 * xs.length) (by omega))) ?_
    · show R.ok (vi ((s : Int) + 2 * (z : Int))) [] = _
      rw [show (s : Int) + 2 * (z : Int) = ((s + 2 * xs.length : Nat) : Int) by omega]; rfl
    refine pskip (ptn1 (ptb (pc (pa rfl (pa (p2 (p2 (p2 rfl rfl (hgx 1 (by omega) _)) (pc (pa rfl (pa rfl (pa (v := .int ((s + xs.length : Nat) : Int)) (p2 rfl rfl ?_) pn))) (c_entry 7 [] xs h0 (by omega) hs p (s + xs.length) (by omega))) (mul_small hg _)) (pc (pa rfl (pa rfl (pa rfl pn))) (c_entry 7 [] xs h0 (by omega) hs p s (by omega))) rfl) pn)) ((same_int 10 [] _ _).trans ?_)))) rfl
    · show R.ok (vi ((s : Int) + (z : Int))) [] = _
      rw [show (s : Int) + (z : Int) = ((s + xs.length : Nat) : Int) by omega]; rfl
    · rw [decide_eq_true (ent_rec xs h0 p s)]
  intro B hB
  obtain ⟨ρ2, h1, h2⟩ := fo_pred (μ := []) (g := gN 1) (b := B) (fun k : Nat => D.int (k : Nat)) P (List.range 4) (fun k hk ρ hp => by
    obtain ⟨ρ2, h1, h2⟩ := hB k (List.mem_range.mp hk) ρ hp
    exact ⟨_, ρ2, rfl, h1, h2⟩) [some (.fl (ns.map D.int)), none, none, none, none, none, none, none, none, none, none, none, none] ⟨_, _, _, _, _, _, _, _, _, _, _, _, rfl⟩
  exact ⟨ρ2, pfor (range1 (n := 4) rfl (by omega)) h1 (pret rfl)⟩
end L_k12
end
section
set_option Elab.async false
set_option linter.all false
set_option maxRecDepth 100000
set_option maxHeartbeats 4000000
namespace L_k12
open PySem PySem.Spec PyProof.Rows L2 Mi
section
variable {P : Program} {w : World} {K : PySem.W.Frag} {mg : Str → Option Value} {base : Heap} {C : CT}
def topS (i : Nat) : Stmt := PySem.Challenge.pw_friezewright_k12_whole_growths.main.body.getD i (.Pass ⟨0, 0, 0, 0⟩)
abbrev s_is_integer : Stmt := topS 5
theorem sc_is_integer : FnScope ["value"] ["value"] (defScope s_is_integer) := ⟨rfl, rfl, rfl, by decide +kernel, rfl, by decide +kernel, by decide +kernel⟩
abbrev s_check_integers : Stmt := topS 7
theorem sc_check_integers : FnScope ["row", "item"] ["row"] (defScope s_check_integers) := ⟨rfl, rfl, rfl, by decide +kernel, rfl, by decide +kernel, by decide +kernel⟩
abbrev s_minus_continuant : Stmt := topS 8
theorem sc_minus_continuant : FnScope ["row", "before", "now", "item"] ["row"] (defScope s_minus_continuant) := ⟨rfl, rfl, rfl, by decide +kernel, rfl, by decide +kernel, by decide +kernel⟩
abbrev s_times : Stmt := topS 9
theorem sc_times : FnScope ["one", "other", "a", "b", "c", "d", "e", "f", "g", "h"] ["one", "other"] (defScope s_times) := ⟨rfl, rfl, rfl, by decide +kernel, rfl, by decide +kernel, by decide +kernel⟩
abbrev s_matrix_of : Stmt := topS 10
theorem sc_matrix_of : FnScope ["row", "found", "item"] ["row"] (defScope s_matrix_of) := ⟨rfl, rfl, rfl, by decide +kernel, rfl, by decide +kernel, by decide +kernel⟩
abbrev s_check_period : Stmt := topS 14
theorem sc_check_period : FnScope ["row", "item"] ["row"] (defScope s_check_period) := ⟨rfl, rfl, rfl, by decide +kernel, rfl, by decide +kernel, by decide +kernel⟩
abbrev s_items : Stmt := topS 15
theorem sc_items : FnScope ["row", "first", "count", "k"] ["row", "first", "count"] (defScope s_items) := ⟨rfl, rfl, rfl, by decide +kernel, rfl, by decide +kernel, by decide +kernel⟩
abbrev s_entry : Stmt := topS 16
theorem sc_entry : FnScope ["row", "place", "steps"] ["row", "place", "steps"] (defScope s_entry) := ⟨rfl, rfl, rfl, by decide +kernel, rfl, by decide +kernel, by decide +kernel⟩
abbrev s_growth : Stmt := topS 17
theorem sc_growth : FnScope ["row", "times", "found"] ["row", "times"] (defScope s_growth) := ⟨rfl, rfl, rfl, by decide +kernel, rfl, by decide +kernel, by decide +kernel⟩
abbrev s_growths : Stmt := topS 18
theorem sc_growths : FnScope ["row", "count", "first", "found"] ["row", "count"] (defScope s_growths) := ⟨rfl, rfl, rfl, by decide +kernel, rfl, by decide +kernel, by decide +kernel⟩
abbrev s__law_cell : Stmt := topS 20
theorem sc__law_cell : FnScope ["script", "k"] ["script", "k"] (defScope s__law_cell) := ⟨rfl, rfl, rfl, by decide +kernel, rfl, by decide +kernel, by decide +kernel⟩
abbrev s__law_rich : Stmt := topS 21
theorem sc__law_rich : FnScope ["cell", "k", "mixed"] ["cell", "k"] (defScope s__law_rich) := ⟨rfl, rfl, rfl, by decide +kernel, rfl, by decide +kernel, by decide +kernel⟩
abbrev s__law_same : Stmt := topS 22
theorem sc__law_same : FnScope ["told", "due", "one", "other"] ["told", "due"] (defScope s__law_same) := ⟨rfl, rfl, rfl, by decide +kernel, rfl, by decide +kernel, by decide +kernel⟩
abbrev s__law_trace : Stmt := topS 23
theorem sc__law_trace : FnScope ["row", "times_v", "a", "b", "c", "d", "k", "item"] ["row", "times_v"] (defScope s__law_trace) := ⟨rfl, rfl, rfl, by decide +kernel, rfl, by decide +kernel, by decide +kernel⟩
abbrev s_law : Stmt := topS 24
theorem sc_law : FnScope ["script", "turn", "rich", "other", "low", "row", "size", "due", "place", "steps", "told", "k", "times_v"] ["script"] (defScope s_law) := ⟨rfl, rfl, rfl, by decide +kernel, rfl, by decide +kernel, by decide +kernel⟩
/-- names of built-ins, constants of the modules -/
structure Nm (K : PySem.W.Frag) (mg : Str → Option Value) : Prop where
  _u : True
  z_abs : mg "abs" = none
  z_all : mg "all" = none
  z_any : mg "any" = none
  z_bool : mg "bool" = none
  z_int : mg "int" = none
  z_isinstance : mg "isinstance" = none
  z_len : mg "len" = none
  z_range : mg "range" = none
  z_tuple : mg "tuple" = none
  z_zip : mg "zip" = none
  g_MOST_PERIOD : ∃ t, mg "MOST_PERIOD" = some (.int 30 t)
  g_MOST_STEPS : ∃ t, mg "MOST_STEPS" = some (.int 400 t)
theorem Nm.k_MOST_PERIOD {X : Cx} (T : Nm X.K X.mg) {W : WX} {pos : Pos} (hg : Gl X "MOST_PERIOD") : PE X (.Name "MOST_PERIOD" pos) (tE X.K C W (eC c_MOST_PERIOD)) := by
  obtain ⟨t, e⟩ := T.g_MOST_PERIOD
  exact ev_glob (v := .int 30) hg e ⟨t, rfl⟩ fun _ _ => by unfold c_MOST_PERIOD DR; rfl
theorem Nm.k_MOST_STEPS {X : Cx} (T : Nm X.K X.mg) {W : WX} {pos : Pos} (hg : Gl X "MOST_STEPS") : PE X (.Name "MOST_STEPS" pos) (tE X.K C W (eC c_MOST_STEPS)) := by
  obtain ⟨t, e⟩ := T.g_MOST_STEPS
  exact ev_glob (v := .int 400) hg e ⟨t, rfl⟩ fun _ _ => by unfold c_MOST_STEPS DR; rfl
/-- the defs that are called -/
structure Fs (P : Program) (w : World) (K : PySem.W.Frag) (mg : Str → Option Value) (base : Heap) (C : CT) (n : Nat) : Prop where
  _u : True
  f_is_integer : Fk P w K mg base C n (callF tab n) 0 "is_integer"
  f_check_integers : Fk P w K mg base C n (callF tab n) 1 "check_integers"
  f_minus_continuant : Fk P w K mg base C n (callF tab n) 2 "minus_continuant"
  f_times : Fk P w K mg base C n (callF tab n) 3 "times"
  f_matrix_of : Fk P w K mg base C n (callF tab n) 4 "matrix_of"
  f_check_period : Fk P w K mg base C n (callF tab n) 5 "check_period"
  f_items : Fk P w K mg base C n (callF tab n) 6 "items"
  f_entry : Fk P w K mg base C n (callF tab n) 7 "entry"
  f_growth : Fk P w K mg base C n (callF tab n) 8 "growth"
  f_growths : Fk P w K mg base C n (callF tab n) 9 "growths"
  f__law_cell : Fk P w K mg base C n (callF tab n) 10 "_law_cell"
  f__law_rich : Fk P w K mg base C n (callF tab n) 11 "_law_rich"
  f__law_same : Fk P w K mg base C n (callF tab n) 12 "_law_same"
  f__law_trace : Fk P w K mg base C n (callF tab n) 13 "_law_trace"
theorem ok_is_integer {n : Nat} {f : Addr} {fd : FuncData} (F0 : Fun K "is_integer" "is_integer" s_is_integer f fd) (T : Nm K mg) (F : Fs P w K mg base C n) : FnOk P w K mg base (L2.CX P w) (n + 1) f fd ["value"] (spG K C (callF tab (n + 1) 0)) := by
  have S := sc_is_integer
  have z_bool := T.z_bool
  have z_int := T.z_int
  have z_isinstance := T.z_isinstance
  refine fn_ok (fdv := ⟨1, 1, b_is_integer⟩) F0 S rfl rfl rfl fun cdv A outer s H E hr => ?_
  show PSs _ _ (tS _ _ _ (b_is_integer (callF tab n)))
  unfold b_is_integer
  exact (sv_cons (sv_ret (ev_and (ev_isi (t := .int) (ev_var 0 rfl (by first | exact Or.inl rfl | exact Or.inr (Or.inl rfl) | exact Or.inr (Or.inr rfl))) (by rfl) z_isinstance (by rfl) z_int bt_int) (ev_and1 (ev_not (ev_isi (t := .bool) (ev_var 0 rfl (by first | exact Or.inl rfl | exact Or.inr (Or.inl rfl) | exact Or.inr (Or.inr rfl))) (by rfl) z_isinstance (by rfl) z_bool bt_bool)))))
  sv_nil)
theorem ok_check_integers {n : Nat} {f : Addr} {fd : FuncData} (F0 : Fun K "check_integers" "check_integers" s_check_integers f fd) (T : Nm K mg) (F : Fs P w K mg base C n) : FnOk P w K mg base (L2.CX P w) (n + 1) f fd ["row"] (spG K C (callF tab (n + 1) 1)) := by
  have S := sc_check_integers
  have z_all := T.z_all
  have z_isinstance := T.z_isinstance
  have z_tuple := T.z_tuple
  refine fn_ok (fdv := ⟨1, 2, b_check_integers⟩) F0 S rfl rfl rfl fun cdv A outer s H E hr => ?_
  show PSs _ _ (tS _ _ _ (b_check_integers (callF tab n)))
  unfold b_check_integers
  exact (sv_cons (sv_if (PW.pt (tv_or (tv_not (tv_of (ev_isi (t := .tuple) (ev_var 0 rfl (by first | exact Or.inl rfl | exact Or.inr (Or.inl rfl) | exact Or.inr (Or.inr rfl))) (by rfl) z_isinstance (by rfl) z_tuple bt_tuple))) (tv_or1 (tv_not (tv_of (ev_b1 (cr_all rfl) o_all (by rfl) z_all bt_all (ev_lc (own := [("item", 1)]) rfl S.nd (iv_e (ev_var 0 rfl (by first | exact Or.inl rfl | exact Or.inr (Or.inl rfl) | exact Or.inr (Or.inr rfl)))) (blkOk_by (by show blkC ["row", "item"] (defScope s_check_integers) _ _ = true; decide +kernel)) (glc_name (by decide)) (fun _ _ _ _ _ => (pg_name (i := 1) S.nd rfl (by first | exact Or.inl rfl | exact Or.inr rfl))) (fun _ _ _ _ _ => ts_nil) (fun _ _ _ _ _ => (ev_call 0 F.f_is_integer takes0 hr (by rfl) (av_cons (ev_var 1 rfl (by first | exact Or.inl rfl | exact Or.inr (Or.inl rfl) | exact Or.inr (Or.inr rfl))) av_nil)))))))))) (sv_cons sv_never
  sv_nil) sv_nil)
  sv_nil)
theorem ok_minus_continuant {n : Nat} {f : Addr} {fd : FuncData} (F0 : Fun K "minus_continuant" "minus_continuant" s_minus_continuant f fd) (T : Nm K mg) (F : Fs P w K mg base C n) : FnOk P w K mg base (L2.CX P w) (n + 1) f fd ["row"] (spG K C (callF tab (n + 1) 2)) := by
  have S := sc_minus_continuant
  refine fn_ok (fdv := ⟨1, 4, b_minus_continuant⟩) F0 S rfl rfl rfl fun cdv A outer s H E hr => ?_
  show PSs _ _ (tS _ _ _ (b_minus_continuant (callF tab n)))
  unfold b_minus_continuant
  exact (sv_cons (sv_expr (ev_call 1 F.f_check_integers (takes_of rfl rfl rfl rfl) hr (by rfl) (av_cons (ev_var 0 rfl (by first | exact Or.inl rfl | exact Or.inr (Or.inl rfl) | exact Or.inr (Or.inr rfl))) av_nil)))
  (sv_cons (sv_asg (ev_tup (av_cons ev_int (av_cons ev_int av_nil))) (gv_tup rfl (gvs_cons (gv_name 1 S.nd rfl (by first | exact Or.inl rfl | exact Or.inr rfl)) (gvs_cons (gv_name 2 S.nd rfl (by first | exact Or.inl rfl | exact Or.inr rfl)) gvs_nil)) (gsl_cons (gsl_cons gsl_nil))))
  (sv_cons (sv_for (passes_of rfl) rfl (iv_e (ev_var 0 rfl (by first | exact Or.inl rfl | exact Or.inr (Or.inl rfl) | exact Or.inr (Or.inr rfl)))) (gv_name 3 S.nd rfl (by first | exact Or.inl rfl | exact Or.inr rfl)) (sv_cons (sv_par 1 2 rfl S.nd rfl rfl (by decide) rfl rfl (av_cons (ev_var 2 rfl (by first | exact Or.inl rfl | exact Or.inr (Or.inl rfl) | exact Or.inr (Or.inr rfl))) (av_cons (ev_bin op_sub o_sub (ev_bin op_mulA o_mul (ev_var 3 rfl (by first | exact Or.inl rfl | exact Or.inr (Or.inl rfl) | exact Or.inr (Or.inr rfl))) (ev_var 2 rfl (by first | exact Or.inl rfl | exact Or.inr (Or.inl rfl) | exact Or.inr (Or.inr rfl)))) (ev_var 1 rfl (by first | exact Or.inl rfl | exact Or.inr (Or.inl rfl) | exact Or.inr (Or.inr rfl)))) av_nil)) (by rfl))
  sv_nil))
  (sv_cons (sv_ret (ev_var 2 rfl (by first | exact Or.inl rfl | exact Or.inr (Or.inl rfl) | exact Or.inr (Or.inr rfl))))
  sv_nil))))
theorem ok_times {n : Nat} {f : Addr} {fd : FuncData} (F0 : Fun K "times" "times" s_times f fd) (T : Nm K mg) (F : Fs P w K mg base C n) : FnOk P w K mg base (L2.CX P w) (n + 1) f fd ["one", "other"] (spG K C (callF tab (n + 1) 3)) := by
  have S := sc_times
  refine fn_ok (fdv := ⟨2, 10, b_times⟩) F0 S rfl rfl rfl fun cdv A outer s H E hr => ?_
  show PSs _ _ (tS _ _ _ (b_times (callF tab n)))
  unfold b_times
  exact (sv_cons (sv_asg (ev_var 0 rfl (by first | exact Or.inl rfl | exact Or.inr (Or.inl rfl) | exact Or.inr (Or.inr rfl))) (gv_tup rfl (gvs_cons (gv_name 2 S.nd rfl (by first | exact Or.inl rfl | exact Or.inr rfl)) (gvs_cons (gv_name 3 S.nd rfl (by first | exact Or.inl rfl | exact Or.inr rfl)) (gvs_cons (gv_name 4 S.nd rfl (by first | exact Or.inl rfl | exact Or.inr rfl)) (gvs_cons (gv_name 5 S.nd rfl (by first | exact Or.inl rfl | exact Or.inr rfl)) gvs_nil)))) (gsl_cons (gsl_cons (gsl_cons (gsl_cons gsl_nil))))))
  (sv_cons (sv_asg (ev_var 1 rfl (by first | exact Or.inl rfl | exact Or.inr (Or.inl rfl) | exact Or.inr (Or.inr rfl))) (gv_tup rfl (gvs_cons (gv_name 6 S.nd rfl (by first | exact Or.inl rfl | exact Or.inr rfl)) (gvs_cons (gv_name 7 S.nd rfl (by first | exact Or.inl rfl | exact Or.inr rfl)) (gvs_cons (gv_name 8 S.nd rfl (by first | exact Or.inl rfl | exact Or.inr rfl)) (gvs_cons (gv_name 9 S.nd rfl (by first | exact Or.inl rfl | exact Or.inr rfl)) gvs_nil)))) (gsl_cons (gsl_cons (gsl_cons (gsl_cons gsl_nil))))))
  (sv_cons (sv_ret (ev_tup (av_cons (ev_bin op_addA o_add (ev_bin op_mulA o_mul (ev_var 2 rfl (by first | exact Or.inl rfl | exact Or.inr (Or.inl rfl) | exact Or.inr (Or.inr rfl))) (ev_var 6 rfl (by first | exact Or.inl rfl | exact Or.inr (Or.inl rfl) | exact Or.inr (Or.inr rfl)))) (ev_bin op_mulA o_mul (ev_var 3 rfl (by first | exact Or.inl rfl | exact Or.inr (Or.inl rfl) | exact Or.inr (Or.inr rfl))) (ev_var 8 rfl (by first | exact Or.inl rfl | exact Or.inr (Or.inl rfl) | exact Or.inr (Or.inr rfl))))) (av_cons (ev_bin op_addA o_add (ev_bin op_mulA o_mul (ev_var 2 rfl (by first | exact Or.inl rfl | exact Or.inr (Or.inl rfl) | exact Or.inr (Or.inr rfl))) (ev_var 7 rfl (by first | exact Or.inl rfl | exact Or.inr (Or.inl rfl) | exact Or.inr (Or.inr rfl)))) (ev_bin op_mulA o_mul (ev_var 3 rfl (by first | exact Or.inl rfl | exact Or.inr (Or.inl rfl) | exact Or.inr (Or.inr rfl))) (ev_var 9 rfl (by first | exact Or.inl rfl | exact Or.inr (Or.inl rfl) | exact Or.inr (Or.inr rfl))))) (av_cons (ev_bin op_addA o_add (ev_bin op_mulA o_mul (ev_var 4 rfl (by first | exact Or.inl rfl | exact Or.inr (Or.inl rfl) | exact Or.inr (Or.inr rfl))) (ev_var 6 rfl (by first | exact Or.inl rfl | exact Or.inr (Or.inl rfl) | exact Or.inr (Or.inr rfl)))) (ev_bin op_mulA o_mul (ev_var 5 rfl (by first | exact Or.inl rfl | exact Or.inr (Or.inl rfl) | exact Or.inr (Or.inr rfl))) (ev_var 8 rfl (by first | exact Or.inl rfl | exact Or.inr (Or.inl rfl) | exact Or.inr (Or.inr rfl))))) (av_cons (ev_bin op_addA o_add (ev_bin op_mulA o_mul (ev_var 4 rfl (by first | exact Or.inl rfl | exact Or.inr (Or.inl rfl) | exact Or.inr (Or.inr rfl))) (ev_var 7 rfl (by first | exact Or.inl rfl | exact Or.inr (Or.inl rfl) | exact Or.inr (Or.inr rfl)))) (ev_bin op_mulA o_mul (ev_var 5 rfl (by first | exact Or.inl rfl | exact Or.inr (Or.inl rfl) | exact Or.inr (Or.inr rfl))) (ev_var 9 rfl (by first | exact Or.inl rfl | exact Or.inr (Or.inl rfl) | exact Or.inr (Or.inr rfl))))) av_nil))))))
  sv_nil)))
theorem ok_matrix_of {n : Nat} {f : Addr} {fd : FuncData} (F0 : Fun K "matrix_of" "matrix_of" s_matrix_of f fd) (T : Nm K mg) (F : Fs P w K mg base C n) : FnOk P w K mg base (L2.CX P w) (n + 1) f fd ["row"] (spG K C (callF tab (n + 1) 4)) := by
  have S := sc_matrix_of
  refine fn_ok (fdv := ⟨1, 3, b_matrix_of⟩) F0 S rfl rfl rfl fun cdv A outer s H E hr => ?_
  show PSs _ _ (tS _ _ _ (b_matrix_of (callF tab n)))
  unfold b_matrix_of
  exact (sv_cons (sv_expr (ev_call 1 F.f_check_integers (takes_of rfl rfl rfl rfl) hr (by rfl) (av_cons (ev_var 0 rfl (by first | exact Or.inl rfl | exact Or.inr (Or.inl rfl) | exact Or.inr (Or.inr rfl))) av_nil)))
  (sv_cons (sv_set 1 S.nd rfl (by first | exact Or.inl rfl | exact Or.inr rfl) (ev_tup (av_cons ev_int (av_cons ev_int (av_cons ev_int (av_cons ev_int av_nil))))))
  (sv_cons (sv_for (passes_of rfl) rfl (iv_e (ev_var 0 rfl (by first | exact Or.inl rfl | exact Or.inr (Or.inl rfl) | exact Or.inr (Or.inr rfl)))) (gv_name 2 S.nd rfl (by first | exact Or.inl rfl | exact Or.inr rfl)) (sv_cons (sv_set 1 S.nd rfl (by first | exact Or.inl rfl | exact Or.inr rfl) (ev_call 3 F.f_times (takes_of rfl rfl rfl rfl) hr (by rfl) (av_cons (ev_var 1 rfl (by first | exact Or.inl rfl | exact Or.inr (Or.inl rfl) | exact Or.inr (Or.inr rfl))) (av_cons (ev_tup (av_cons (ev_var 2 rfl (by first | exact Or.inl rfl | exact Or.inr (Or.inl rfl) | exact Or.inr (Or.inr rfl))) (av_cons (ev_un un_neg o_neg ev_int) (av_cons ev_int (av_cons ev_int av_nil))))) av_nil))))
  sv_nil))
  (sv_cons (sv_ret (ev_var 1 rfl (by first | exact Or.inl rfl | exact Or.inr (Or.inl rfl) | exact Or.inr (Or.inr rfl))))
  sv_nil))))
theorem ok_check_period {n : Nat} {f : Addr} {fd : FuncData} (F0 : Fun K "check_period" "check_period" s_check_period f fd) (T : Nm K mg) (F : Fs P w K mg base C n) : FnOk P w K mg base (L2.CX P w) (n + 1) f fd ["row"] (spG K C (callF tab (n + 1) 5)) := by
  have S := sc_check_period
  have z_all := T.z_all
  have z_isinstance := T.z_isinstance
  have z_len := T.z_len
  have z_tuple := T.z_tuple
  have g_MOST_PERIOD : ∀ {X : Cx} {W : WX} {pos : Pos}, X.K = K → X.mg = mg → Gl X "MOST_PERIOD" → PE X (.Name "MOST_PERIOD" pos) (tE X.K C W (eC c_MOST_PERIOD)) := fun {X W pos} e1 e2 hg => Nm.k_MOST_PERIOD (by rw [e1, e2]; exact T) hg
  refine fn_ok (fdv := ⟨1, 2, b_check_period⟩) F0 S rfl rfl rfl fun cdv A outer s H E hr => ?_
  show PSs _ _ (tS _ _ _ (b_check_period (callF tab n)))
  unfold b_check_period
  exact (sv_cons (sv_if (PW.pt (tv_or (tv_not (tv_of (ev_isi (t := .tuple) (ev_var 0 rfl (by first | exact Or.inl rfl | exact Or.inr (Or.inl rfl) | exact Or.inr (Or.inr rfl))) (by rfl) z_isinstance (by rfl) z_tuple bt_tuple))) (tv_or1 (tv_not (tv_of (ev_b1 (cr_all rfl) o_all (by rfl) z_all bt_all (ev_lc (own := [("item", 1)]) rfl S.nd (iv_e (ev_var 0 rfl (by first | exact Or.inl rfl | exact Or.inr (Or.inl rfl) | exact Or.inr (Or.inr rfl)))) (blkOk_by (by show blkC ["row", "item"] (defScope s_check_period) _ _ = true; decide +kernel)) (glc_name (by decide)) (fun _ _ _ _ _ => (pg_name (i := 1) S.nd rfl (by first | exact Or.inl rfl | exact Or.inr rfl))) (fun _ _ _ _ _ => ts_nil) (fun _ _ _ _ _ => (ev_call 0 F.f_is_integer takes0 hr (by rfl) (av_cons (ev_var 1 rfl (by first | exact Or.inl rfl | exact Or.inr (Or.inl rfl) | exact Or.inr (Or.inr rfl))) av_nil)))))))))) (sv_cons sv_never
  sv_nil) sv_nil)
  (sv_cons (sv_if (PW.pt (tv_or (tv_cmp (op_eqA (hu64 hr)) o_eq bl_eq (ev_var 0 rfl (by first | exact Or.inl rfl | exact Or.inr (Or.inl rfl) | exact Or.inr (Or.inr rfl))) (ev_tup av_nil) (nomark _)) (tv_or1 (tv_cmp op_gt o_gt bl_gt (ev_b1 call_len o_len (by rfl) z_len bt_len (ev_var 0 rfl (by first | exact Or.inl rfl | exact Or.inr (Or.inl rfl) | exact Or.inr (Or.inr rfl)))) (g_MOST_PERIOD rfl rfl (by rfl)) (nomark _))))) (sv_cons sv_never
  sv_nil) sv_nil)
  sv_nil))
theorem ok_items {n : Nat} {f : Addr} {fd : FuncData} (F0 : Fun K "items" "items" s_items f fd) (T : Nm K mg) (F : Fs P w K mg base C n) : FnOk P w K mg base (L2.CX P w) (n + 1) f fd ["row", "first", "count"] (spG K C (callF tab (n + 1) 6)) := by
  have S := sc_items
  have z_len := T.z_len
  have z_range := T.z_range
  have z_tuple := T.z_tuple
  refine fn_ok (fdv := ⟨3, 4, b_items⟩) F0 S rfl rfl rfl fun cdv A outer s H E hr => ?_
  show PSs _ _ (tS _ _ _ (b_items (callF tab n)))
  unfold b_items
  exact (sv_cons (sv_ret (ev_t1 call_tuple_of o_tuple (by rfl) z_tuple bt_tuple (ev_lc (own := [("k", 3)]) rfl S.nd (iv_range1 (by rfl) z_range (ev_var 2 rfl (by first | exact Or.inl rfl | exact Or.inr (Or.inl rfl) | exact Or.inr (Or.inr rfl)))) (blkOk_by (by show blkC ["row", "first", "count", "k"] (defScope s_items) _ _ = true; decide +kernel)) (glc_name (by decide)) (fun _ _ _ _ _ => (pg_name (i := 3) S.nd rfl (by first | exact Or.inl rfl | exact Or.inr rfl))) (fun _ _ _ _ _ => ts_nil) (fun _ _ _ _ _ => (ev_ix (ev_var 0 rfl (by first | exact Or.inl rfl | exact Or.inr (Or.inl rfl) | exact Or.inr (Or.inr rfl))) (ev_bin op_mod o_mod (ev_bin op_addA o_add (ev_var 1 rfl (by first | exact Or.inl rfl | exact Or.inr (Or.inl rfl) | exact Or.inr (Or.inr rfl))) (ev_var 3 rfl (by first | exact Or.inl rfl | exact Or.inr (Or.inl rfl) | exact Or.inr (Or.inr rfl)))) (ev_b1 call_len o_len (by rfl) z_len bt_len (ev_var 0 rfl (by first | exact Or.inl rfl | exact Or.inr (Or.inl rfl) | exact Or.inr (Or.inr rfl))))) (fun _ _ => rfl))))))
  sv_nil)
theorem ok_entry {n : Nat} {f : Addr} {fd : FuncData} (F0 : Fun K "entry" "entry" s_entry f fd) (T : Nm K mg) (F : Fs P w K mg base C n) : FnOk P w K mg base (L2.CX P w) (n + 1) f fd ["row", "place", "steps"] (spG K C (callF tab (n + 1) 7)) := by
  have S := sc_entry
  have g_MOST_STEPS : ∀ {X : Cx} {W : WX} {pos : Pos}, X.K = K → X.mg = mg → Gl X "MOST_STEPS" → PE X (.Name "MOST_STEPS" pos) (tE X.K C W (eC c_MOST_STEPS)) := fun {X W pos} e1 e2 hg => Nm.k_MOST_STEPS (by rw [e1, e2]; exact T) hg
  refine fn_ok (fdv := ⟨3, 3, b_entry⟩) F0 S rfl rfl rfl fun cdv A outer s H E hr => ?_
  show PSs _ _ (tS _ _ _ (b_entry (callF tab n)))
  unfold b_entry
  exact (sv_cons (sv_expr (ev_call 5 F.f_check_period (takes_of rfl rfl rfl rfl) hr (by rfl) (av_cons (ev_var 0 rfl (by first | exact Or.inl rfl | exact Or.inr (Or.inl rfl) | exact Or.inr (Or.inr rfl))) av_nil)))
  (sv_cons (sv_if (PW.pt (tv_or (tv_not (tv_of (ev_call 0 F.f_is_integer (takes_of rfl rfl rfl rfl) hr (by rfl) (av_cons (ev_var 1 rfl (by first | exact Or.inl rfl | exact Or.inr (Or.inl rfl) | exact Or.inr (Or.inr rfl))) av_nil)))) (tv_or (tv_not (tv_of (ev_call 0 F.f_is_integer (takes_of rfl rfl rfl rfl) hr (by rfl) (av_cons (ev_var 2 rfl (by first | exact Or.inl rfl | exact Or.inr (Or.inl rfl) | exact Or.inr (Or.inr rfl))) av_nil)))) (tv_or (tv_cmp op_lt o_lt bl_lt (ev_var 2 rfl (by first | exact Or.inl rfl | exact Or.inr (Or.inl rfl) | exact Or.inr (Or.inr rfl))) ev_int (nomark _)) (tv_or1 (tv_cmp op_gt o_gt bl_gt (ev_var 2 rfl (by first | exact Or.inl rfl | exact Or.inr (Or.inl rfl) | exact Or.inr (Or.inr rfl))) (g_MOST_STEPS rfl rfl (by rfl)) (nomark _))))))) (sv_cons sv_never
  sv_nil) sv_nil)
  (sv_cons (sv_ret (ev_if (tv_cmp op_gt o_gt bl_gt (ev_var 2 rfl (by first | exact Or.inl rfl | exact Or.inr (Or.inl rfl) | exact Or.inr (Or.inr rfl))) ev_int (nomark _)) (ev_call 2 F.f_minus_continuant (takes_of rfl rfl rfl rfl) hr (by rfl) (av_cons (ev_call 6 F.f_items (takes_of rfl rfl rfl rfl) hr (by rfl) (av_cons (ev_var 0 rfl (by first | exact Or.inl rfl | exact Or.inr (Or.inl rfl) | exact Or.inr (Or.inr rfl))) (av_cons (ev_bin op_addA o_add (ev_var 1 rfl (by first | exact Or.inl rfl | exact Or.inr (Or.inl rfl) | exact Or.inr (Or.inr rfl))) ev_int) (av_cons (ev_bin op_sub o_sub (ev_var 2 rfl (by first | exact Or.inl rfl | exact Or.inr (Or.inl rfl) | exact Or.inr (Or.inr rfl))) ev_int) av_nil)))) av_nil)) ev_int))
  sv_nil)))
theorem ok_growth {n : Nat} {f : Addr} {fd : FuncData} (F0 : Fun K "growth" "growth" s_growth f fd) (T : Nm K mg) (F : Fs P w K mg base C n) : FnOk P w K mg base (L2.CX P w) (n + 1) f fd ["row", "times"] (spG K C (callF tab (n + 1) 8)) := by
  have S := sc_growth
  have z_len := T.z_len
  have g_MOST_STEPS : ∀ {X : Cx} {W : WX} {pos : Pos}, X.K = K → X.mg = mg → Gl X "MOST_STEPS" → PE X (.Name "MOST_STEPS" pos) (tE X.K C W (eC c_MOST_STEPS)) := fun {X W pos} e1 e2 hg => Nm.k_MOST_STEPS (by rw [e1, e2]; exact T) hg
  refine fn_ok (fdv := ⟨2, 3, b_growth⟩) F0 S rfl rfl rfl fun cdv A outer s H E hr => ?_
  show PSs _ _ (tS _ _ _ (b_growth (callF tab n)))
  unfold b_growth
  exact (sv_cons (sv_expr (ev_call 5 F.f_check_period (takes_of rfl rfl rfl rfl) hr (by rfl) (av_cons (ev_var 0 rfl (by first | exact Or.inl rfl | exact Or.inr (Or.inl rfl) | exact Or.inr (Or.inr rfl))) av_nil)))
  (sv_cons (sv_if (PW.pt (tv_or (tv_not (tv_of (ev_call 0 F.f_is_integer (takes_of rfl rfl rfl rfl) hr (by rfl) (av_cons (ev_var 1 rfl (by first | exact Or.inl rfl | exact Or.inr (Or.inl rfl) | exact Or.inr (Or.inr rfl))) av_nil)))) (tv_or (tv_cmp op_lt o_lt bl_lt (ev_var 1 rfl (by first | exact Or.inl rfl | exact Or.inr (Or.inl rfl) | exact Or.inr (Or.inr rfl))) ev_int (nomark _)) (tv_or1 (tv_cmp op_gt o_gt bl_gt (ev_bin op_mulA o_mul (ev_var 1 rfl (by first | exact Or.inl rfl | exact Or.inr (Or.inl rfl) | exact Or.inr (Or.inr rfl))) (ev_b1 call_len o_len (by rfl) z_len bt_len (ev_var 0 rfl (by first | exact Or.inl rfl | exact Or.inr (Or.inl rfl) | exact Or.inr (Or.inr rfl))))) (g_MOST_STEPS rfl rfl (by rfl)) (nomark _)))))) (sv_cons sv_never
  sv_nil) sv_nil)
  (sv_cons (sv_set 2 S.nd rfl (by first | exact Or.inl rfl | exact Or.inr rfl) (ev_call 4 F.f_matrix_of (takes_of rfl rfl rfl rfl) hr (by rfl) (av_cons (ev_bin op_mulA o_mul (ev_var 0 rfl (by first | exact Or.inl rfl | exact Or.inr (Or.inl rfl) | exact Or.inr (Or.inr rfl))) (ev_var 1 rfl (by first | exact Or.inl rfl | exact Or.inr (Or.inl rfl) | exact Or.inr (Or.inr rfl)))) av_nil)))
  (sv_cons (sv_ret (ev_bin op_addA o_add (ev_ix (ev_var 2 rfl (by first | exact Or.inl rfl | exact Or.inr (Or.inl rfl) | exact Or.inr (Or.inr rfl))) ev_int (fun _ _ => rfl)) (ev_ix (ev_var 2 rfl (by first | exact Or.inl rfl | exact Or.inr (Or.inl rfl) | exact Or.inr (Or.inr rfl))) ev_int (fun _ _ => rfl))))
  sv_nil))))
theorem ok_growths {n : Nat} {f : Addr} {fd : FuncData} (F0 : Fun K "growths" "growths" s_growths f fd) (T : Nm K mg) (F : Fs P w K mg base C n) : FnOk P w K mg base (L2.CX P w) (n + 1) f fd ["row", "count"] (spG K C (callF tab (n + 1) 9)) := by
  have S := sc_growths
  have z_len := T.z_len
  have z_tuple := T.z_tuple
  refine fn_ok (fdv := ⟨2, 4, b_growths⟩) F0 S rfl rfl rfl fun cdv A outer s H E hr => ?_
  show PSs _ _ (tS _ _ _ (b_growths (callF tab n)))
  unfold b_growths
  exact (sv_cons (sv_set 2 S.nd rfl (by first | exact Or.inl rfl | exact Or.inr rfl) (ev_call 8 F.f_growth (takes_of rfl rfl rfl rfl) hr (by rfl) (av_cons (ev_var 0 rfl (by first | exact Or.inl rfl | exact Or.inr (Or.inl rfl) | exact Or.inr (Or.inr rfl))) (av_cons ev_int av_nil))))
  (sv_cons (sv_set 3 S.nd rfl (by first | exact Or.inl rfl | exact Or.inr rfl) (ev_lst (av_cons ev_int (av_cons (ev_var 2 rfl (by first | exact Or.inl rfl | exact Or.inr (Or.inl rfl) | exact Or.inr (Or.inr rfl))) av_nil))))
  (sv_cons (sv_while (passes_of rfl) (tv_cmp op_lt o_lt bl_lt (ev_b1 call_len o_len (by rfl) z_len bt_len (ev_var 3 rfl (by first | exact Or.inl rfl | exact Or.inr (Or.inl rfl) | exact Or.inr (Or.inr rfl)))) (ev_var 1 rfl (by first | exact Or.inl rfl | exact Or.inr (Or.inl rfl) | exact Or.inr (Or.inr rfl))) (nomark _)) (sv_cons (sv_expr (ev_app (ev_var 3 rfl (by first | exact Or.inl rfl | exact Or.inr (Or.inl rfl) | exact Or.inr (Or.inr rfl))) (ev_bin op_sub o_sub (ev_bin op_mulA o_mul (ev_var 2 rfl (by first | exact Or.inl rfl | exact Or.inr (Or.inl rfl) | exact Or.inr (Or.inr rfl))) (ev_ix (ev_var 3 rfl (by first | exact Or.inl rfl | exact Or.inr (Or.inl rfl) | exact Or.inr (Or.inr rfl))) (ev_un un_neg o_neg ev_int) (fun _ _ => rfl))) (ev_ix (ev_var 3 rfl (by first | exact Or.inl rfl | exact Or.inr (Or.inl rfl) | exact Or.inr (Or.inr rfl))) (ev_un un_neg o_neg ev_int) (fun _ _ => rfl)))))
  sv_nil))
  (sv_cons (sv_ret (ev_t1 call_tuple_of o_tuple (by rfl) z_tuple bt_tuple (ev_sl (ev_var 3 rfl (by first | exact Or.inl rfl | exact Or.inr (Or.inl rfl) | exact Or.inr (Or.inr rfl))) pv_none (pv_some (ev_var 1 rfl (by first | exact Or.inl rfl | exact Or.inr (Or.inl rfl) | exact Or.inr (Or.inr rfl)))))))
  sv_nil))))
theorem ok__law_cell {n : Nat} {f : Addr} {fd : FuncData} (F0 : Fun K "_law_cell" "_law_cell" s__law_cell f fd) (T : Nm K mg) (F : Fs P w K mg base C n) : FnOk P w K mg base (L2.CX P w) (n + 1) f fd ["script", "k"] (spG K C (callF tab (n + 1) 10)) := by
  have S := sc__law_cell
  have z_abs := T.z_abs
  have z_int := T.z_int
  have z_len := T.z_len
  refine fn_ok (fdv := ⟨2, 2, b__law_cell⟩) F0 S rfl rfl rfl fun cdv A outer s H E hr => ?_
  show PSs _ _ (tS _ _ _ (b__law_cell (callF tab n)))
  unfold b__law_cell
  exact (sv_cons (sv_if (tv_cmp op_lt o_lt bl_lt (ev_var 1 rfl (by first | exact Or.inl rfl | exact Or.inr (Or.inl rfl) | exact Or.inr (Or.inr rfl))) (ev_b1 call_len o_len (by rfl) z_len bt_len (ev_var 0 rfl (by first | exact Or.inl rfl | exact Or.inr (Or.inl rfl) | exact Or.inr (Or.inr rfl)))) (nomark _)) (sv_cons (sv_ret (ev_bin op_mod o_mod (ev_b1 call_abs o_abs (by rfl) z_abs bt_abs (ev_t1 call_int1 o_int (by rfl) z_int bt_int (ev_ix (ev_var 0 rfl (by first | exact Or.inl rfl | exact Or.inr (Or.inl rfl) | exact Or.inr (Or.inr rfl))) (ev_var 1 rfl (by first | exact Or.inl rfl | exact Or.inr (Or.inl rfl) | exact Or.inr (Or.inr rfl))) (fun _ _ => rfl)))) ev_int))
  sv_nil) sv_nil)
  (sv_cons (sv_ret ev_int)
  sv_nil))
theorem ok__law_rich {n : Nat} {f : Addr} {fd : FuncData} (F0 : Fun K "_law_rich" "_law_rich" s__law_rich f fd) (T : Nm K mg) (F : Fs P w K mg base C n) : FnOk P w K mg base (L2.CX P w) (n + 1) f fd ["cell", "k"] (spG K C (callF tab (n + 1) 11)) := by
  have S := sc__law_rich
  have z_int := T.z_int
  refine fn_ok (fdv := ⟨2, 3, b__law_rich⟩) F0 S rfl rfl rfl fun cdv A outer s H E hr => ?_
  show PSs _ _ (tS _ _ _ (b__law_rich (callF tab n)))
  unfold b__law_rich
  exact (sv_cons (sv_set 2 S.nd rfl (by first | exact Or.inl rfl | exact Or.inr rfl) (ev_bin op_mod o_mod (ev_t1 call_int1 o_int (by rfl) z_int bt_int (ev_bin op_addA o_add (ev_bin op_addA o_add (ev_bin op_mulA o_mul (ev_var 0 rfl (by first | exact Or.inl rfl | exact Or.inr (Or.inl rfl) | exact Or.inr (Or.inr rfl))) ev_int) (ev_bin op_mulA o_mul (ev_var 1 rfl (by first | exact Or.inl rfl | exact Or.inr (Or.inl rfl) | exact Or.inr (Or.inr rfl))) ev_int)) ev_int)) ev_int))
  (sv_cons (sv_ret (ev_bin op_addA o_add (ev_bin op_mulA o_mul (ev_var 2 rfl (by first | exact Or.inl rfl | exact Or.inr (Or.inl rfl) | exact Or.inr (Or.inr rfl))) ev_int) (ev_bin op_mod o_mod (ev_t1 call_int1 o_int (by rfl) z_int bt_int (ev_bin op_addA o_add (ev_bin op_mulA o_mul (ev_var 2 rfl (by first | exact Or.inl rfl | exact Or.inr (Or.inl rfl) | exact Or.inr (Or.inr rfl))) ev_int) (ev_var 0 rfl (by first | exact Or.inl rfl | exact Or.inr (Or.inl rfl) | exact Or.inr (Or.inr rfl))))) ev_int)))
  sv_nil))
theorem ok__law_same {n : Nat} {f : Addr} {fd : FuncData} (F0 : Fun K "_law_same" "_law_same" s__law_same f fd) (T : Nm K mg) (F : Fs P w K mg base C n) : FnOk P w K mg base (L2.CX P w) (n + 1) f fd ["told", "due"] (spG K C (callF tab (n + 1) 12)) := by
  have S := sc__law_same
  have z_all := T.z_all
  have z_bool := T.z_bool
  have z_int := T.z_int
  have z_isinstance := T.z_isinstance
  have z_len := T.z_len
  have z_tuple := T.z_tuple
  have z_zip := T.z_zip
  refine fn_ok (fdv := ⟨2, 4, b__law_same⟩) F0 S rfl rfl rfl fun cdv A outer s H E hr => ?_
  show PSs _ _ (tS _ _ _ (b__law_same (callF tab n)))
  unfold b__law_same
  exact (sv_cons (sv_if (tv_of (ev_isi (t := .tuple) (ev_var 1 rfl (by first | exact Or.inl rfl | exact Or.inr (Or.inl rfl) | exact Or.inr (Or.inr rfl))) (by rfl) z_isinstance (by rfl) z_tuple bt_tuple)) (sv_cons (sv_ret (ev_and (ev_isi (t := .tuple) (ev_var 0 rfl (by first | exact Or.inl rfl | exact Or.inr (Or.inl rfl) | exact Or.inr (Or.inr rfl))) (by rfl) z_isinstance (by rfl) z_tuple bt_tuple) (ev_and (ev_cmp (op_eqA (hu64 hr)) o_eq (ev_b1 call_len o_len (by rfl) z_len bt_len (ev_var 0 rfl (by first | exact Or.inl rfl | exact Or.inr (Or.inl rfl) | exact Or.inr (Or.inr rfl)))) (ev_b1 call_len o_len (by rfl) z_len bt_len (ev_var 1 rfl (by first | exact Or.inl rfl | exact Or.inr (Or.inl rfl) | exact Or.inr (Or.inr rfl)))) (nomark _)) (ev_and1 (ev_b1 (cr_all rfl) o_all (by rfl) z_all bt_all (ev_lc (own := [("one", 2), ("other", 3)]) rfl S.nd (iv_zip (by rfl) z_zip (ev_var 0 rfl (by first | exact Or.inl rfl | exact Or.inr (Or.inl rfl) | exact Or.inr (Or.inr rfl))) (ev_var 1 rfl (by first | exact Or.inl rfl | exact Or.inr (Or.inl rfl) | exact Or.inr (Or.inr rfl)))) (blkOk_by (by show blkC ["told", "due", "one", "other"] (defScope s__law_same) _ _ = true; decide +kernel)) (glc_tup (gslc_cons (glc_name (by decide)) (gslc_cons (glc_name (by decide)) gslc_nil))) (fun _ _ _ _ _ => (pg_tup rfl (pgs_cons (pg_name (i := 2) S.nd rfl (by first | exact Or.inl rfl | exact Or.inr rfl)) (pgs_cons (pg_name (i := 3) S.nd rfl (by first | exact Or.inl rfl | exact Or.inr rfl)) pgs_nil)))) (fun _ _ _ _ _ => ts_nil) (fun _ _ _ _ _ => (ev_call 12 F.f__law_same takes0 hr (by rfl) (av_cons (ev_var 2 rfl (by first | exact Or.inl rfl | exact Or.inr (Or.inl rfl) | exact Or.inr (Or.inr rfl))) (av_cons (ev_var 3 rfl (by first | exact Or.inl rfl | exact Or.inr (Or.inl rfl) | exact Or.inr (Or.inr rfl))) av_nil))))))))))
  sv_nil) sv_nil)
  (sv_cons (sv_if (PW.pt (tv_or (tv_of (ev_isi (t := .bool) (ev_var 1 rfl (by first | exact Or.inl rfl | exact Or.inr (Or.inl rfl) | exact Or.inr (Or.inr rfl))) (by rfl) z_isinstance (by rfl) z_bool bt_bool)) (tv_or1 (tv_of (ev_isi (t := .bool) (ev_var 0 rfl (by first | exact Or.inl rfl | exact Or.inr (Or.inl rfl) | exact Or.inr (Or.inr rfl))) (by rfl) z_isinstance (by rfl) z_bool bt_bool))))) (sv_cons (sv_ret (ev_and (ev_isi (t := .bool) (ev_var 0 rfl (by first | exact Or.inl rfl | exact Or.inr (Or.inl rfl) | exact Or.inr (Or.inr rfl))) (by rfl) z_isinstance (by rfl) z_bool bt_bool) (ev_and (ev_isi (t := .bool) (ev_var 1 rfl (by first | exact Or.inl rfl | exact Or.inr (Or.inl rfl) | exact Or.inr (Or.inr rfl))) (by rfl) z_isinstance (by rfl) z_bool bt_bool) (ev_and1 (ev_cmp (op_eqA (hu64 hr)) o_eq (ev_var 0 rfl (by first | exact Or.inl rfl | exact Or.inr (Or.inl rfl) | exact Or.inr (Or.inr rfl))) (ev_var 1 rfl (by first | exact Or.inl rfl | exact Or.inr (Or.inl rfl) | exact Or.inr (Or.inr rfl))) (nomark _))))))
  sv_nil) sv_nil)
  (sv_cons (sv_if (tv_of (ev_isi (t := .int) (ev_var 1 rfl (by first | exact Or.inl rfl | exact Or.inr (Or.inl rfl) | exact Or.inr (Or.inr rfl))) (by rfl) z_isinstance (by rfl) z_int bt_int)) (sv_cons (sv_ret (ev_and (ev_isi (t := .int) (ev_var 0 rfl (by first | exact Or.inl rfl | exact Or.inr (Or.inl rfl) | exact Or.inr (Or.inr rfl))) (by rfl) z_isinstance (by rfl) z_int bt_int) (ev_and1 (ev_cmp (op_eqA (hu64 hr)) o_eq (ev_var 0 rfl (by first | exact Or.inl rfl | exact Or.inr (Or.inl rfl) | exact Or.inr (Or.inr rfl))) (ev_var 1 rfl (by first | exact Or.inl rfl | exact Or.inr (Or.inl rfl) | exact Or.inr (Or.inr rfl))) (nomark _)))))
  sv_nil) sv_nil)
  (sv_cons (sv_ret (ev_cmp (op_eqA (hu64 hr)) o_eq (ev_var 0 rfl (by first | exact Or.inl rfl | exact Or.inr (Or.inl rfl) | exact Or.inr (Or.inr rfl))) (ev_var 1 rfl (by first | exact Or.inl rfl | exact Or.inr (Or.inl rfl) | exact Or.inr (Or.inr rfl))) (nomark _)))
  sv_nil))))
theorem ok__law_trace {n : Nat} {f : Addr} {fd : FuncData} (F0 : Fun K "_law_trace" "_law_trace" s__law_trace f fd) (T : Nm K mg) (F : Fs P w K mg base C n) : FnOk P w K mg base (L2.CX P w) (n + 1) f fd ["row", "times_v"] (spG K C (callF tab (n + 1) 13)) := by
  have S := sc__law_trace
  have z_range := T.z_range
  refine fn_ok (fdv := ⟨2, 8, b__law_trace⟩) F0 S rfl rfl rfl fun cdv A outer s H E hr => ?_
  show PSs _ _ (tS _ _ _ (b__law_trace (callF tab n)))
  unfold b__law_trace
  exact (sv_cons (sv_asg (ev_tup (av_cons ev_int (av_cons ev_int (av_cons ev_int (av_cons ev_int av_nil))))) (gv_tup rfl (gvs_cons (gv_name 2 S.nd rfl (by first | exact Or.inl rfl | exact Or.inr rfl)) (gvs_cons (gv_name 3 S.nd rfl (by first | exact Or.inl rfl | exact Or.inr rfl)) (gvs_cons (gv_name 4 S.nd rfl (by first | exact Or.inl rfl | exact Or.inr rfl)) (gvs_cons (gv_name 5 S.nd rfl (by first | exact Or.inl rfl | exact Or.inr rfl)) gvs_nil)))) (gsl_cons (gsl_cons (gsl_cons (gsl_cons gsl_nil))))))
  (sv_cons (sv_for (passes_of rfl) rfl (iv_range1 (by rfl) z_range (ev_var 1 rfl (by first | exact Or.inl rfl | exact Or.inr (Or.inl rfl) | exact Or.inr (Or.inr rfl)))) (gv_name 6 S.nd rfl (by first | exact Or.inl rfl | exact Or.inr rfl)) (sv_cons (sv_for (passes_of rfl) rfl (iv_e (ev_var 0 rfl (by first | exact Or.inl rfl | exact Or.inr (Or.inl rfl) | exact Or.inr (Or.inr rfl)))) (gv_name 7 S.nd rfl (by first | exact Or.inl rfl | exact Or.inr rfl)) (sv_cons (sv_asg (ev_tup (av_cons (ev_bin op_addA o_add (ev_bin op_mulA o_mul (ev_var 2 rfl (by first | exact Or.inl rfl | exact Or.inr (Or.inl rfl) | exact Or.inr (Or.inr rfl))) (ev_var 7 rfl (by first | exact Or.inl rfl | exact Or.inr (Or.inl rfl) | exact Or.inr (Or.inr rfl)))) (ev_var 3 rfl (by first | exact Or.inl rfl | exact Or.inr (Or.inl rfl) | exact Or.inr (Or.inr rfl)))) (av_cons (ev_un un_neg o_neg (ev_var 2 rfl (by first | exact Or.inl rfl | exact Or.inr (Or.inl rfl) | exact Or.inr (Or.inr rfl)))) (av_cons (ev_bin op_addA o_add (ev_bin op_mulA o_mul (ev_var 4 rfl (by first | exact Or.inl rfl | exact Or.inr (Or.inl rfl) | exact Or.inr (Or.inr rfl))) (ev_var 7 rfl (by first | exact Or.inl rfl | exact Or.inr (Or.inl rfl) | exact Or.inr (Or.inr rfl)))) (ev_var 5 rfl (by first | exact Or.inl rfl | exact Or.inr (Or.inl rfl) | exact Or.inr (Or.inr rfl)))) (av_cons (ev_un un_neg o_neg (ev_var 4 rfl (by first | exact Or.inl rfl | exact Or.inr (Or.inl rfl) | exact Or.inr (Or.inr rfl)))) av_nil))))) (gv_tup rfl (gvs_cons (gv_name 2 S.nd rfl (by first | exact Or.inl rfl | exact Or.inr rfl)) (gvs_cons (gv_name 3 S.nd rfl (by first | exact Or.inl rfl | exact Or.inr rfl)) (gvs_cons (gv_name 4 S.nd rfl (by first | exact Or.inl rfl | exact Or.inr rfl)) (gvs_cons (gv_name 5 S.nd rfl (by first | exact Or.inl rfl | exact Or.inr rfl)) gvs_nil)))) (gsl_cons (gsl_cons (gsl_cons (gsl_cons gsl_nil))))))
  sv_nil))
  sv_nil))
  (sv_cons (sv_ret (ev_bin op_addA o_add (ev_var 2 rfl (by first | exact Or.inl rfl | exact Or.inr (Or.inl rfl) | exact Or.inr (Or.inr rfl))) (ev_var 5 rfl (by first | exact Or.inl rfl | exact Or.inr (Or.inl rfl) | exact Or.inr (Or.inr rfl)))))
  sv_nil)))
theorem ok_law {n : Nat} {f : Addr} {fd : FuncData} (F0 : Fun K "law" "law" s_law f fd) (T : Nm K mg) (F : Fs P w K mg base C n) : FnOk P w K mg base (L2.CX P w) (n + 1) f fd ["script"] (spG K C (callF tab (n + 1) 14)) := by
  have S := sc_law
  have z_any := T.z_any
  have z_len := T.z_len
  have z_range := T.z_range
  have z_tuple := T.z_tuple
  refine fn_ok (fdv := ⟨1, 13, b_law⟩) F0 S rfl rfl rfl fun cdv A outer s H E hr => ?_
  show PSs _ _ (tS _ _ _ (b_law (callF tab n)))
  unfold b_law
  exact (sv_cons (sv_for (passes_of rfl) rfl (iv_range1 (by rfl) z_range ev_int) (gv_name 1 S.nd rfl (by first | exact Or.inl rfl | exact Or.inr rfl)) (sv_cons (sv_asg (ev_tup (av_cons (ev_call 11 F.f__law_rich (takes_of rfl rfl rfl rfl) hr (by rfl) (av_cons (ev_call 10 F.f__law_cell (takes_of rfl rfl rfl rfl) hr (by rfl) (av_cons (ev_var 0 rfl (by first | exact Or.inl rfl | exact Or.inr (Or.inl rfl) | exact Or.inr (Or.inr rfl))) (av_cons (ev_bin op_mulA o_mul ev_int (ev_var 1 rfl (by first | exact Or.inl rfl | exact Or.inr (Or.inl rfl) | exact Or.inr (Or.inr rfl)))) av_nil))) (av_cons (ev_bin op_mulA o_mul ev_int (ev_var 1 rfl (by first | exact Or.inl rfl | exact Or.inr (Or.inl rfl) | exact Or.inr (Or.inr rfl)))) av_nil))) (av_cons (ev_call 11 F.f__law_rich (takes_of rfl rfl rfl rfl) hr (by rfl) (av_cons (ev_call 10 F.f__law_cell (takes_of rfl rfl rfl rfl) hr (by rfl) (av_cons (ev_var 0 rfl (by first | exact Or.inl rfl | exact Or.inr (Or.inl rfl) | exact Or.inr (Or.inr rfl))) (av_cons (ev_bin op_addA o_add (ev_bin op_mulA o_mul ev_int (ev_var 1 rfl (by first | exact Or.inl rfl | exact Or.inr (Or.inl rfl) | exact Or.inr (Or.inr rfl)))) ev_int) av_nil))) (av_cons (ev_bin op_addA o_add (ev_bin op_mulA o_mul ev_int (ev_var 1 rfl (by first | exact Or.inl rfl | exact Or.inr (Or.inl rfl) | exact Or.inr (Or.inr rfl)))) ev_int) av_nil))) av_nil))) (gv_tup rfl (gvs_cons (gv_name 2 S.nd rfl (by first | exact Or.inl rfl | exact Or.inr rfl)) (gvs_cons (gv_name 3 S.nd rfl (by first | exact Or.inl rfl | exact Or.inr rfl)) gvs_nil)) (gsl_cons (gsl_cons gsl_nil))))
  (sv_cons (sv_set 4 S.nd rfl (by first | exact Or.inl rfl | exact Or.inr rfl) (ev_ix (ev_lst (av_cons (ev_un un_neg o_neg ev_int) (av_cons ev_int (av_cons ev_int (av_cons ev_int av_nil))))) (ev_bin op_mod o_mod (ev_var 3 rfl (by first | exact Or.inl rfl | exact Or.inr (Or.inl rfl) | exact Or.inr (Or.inr rfl))) ev_int) (fun _ _ => rfl)))
  (sv_cons (sv_set 5 S.nd rfl (by first | exact Or.inl rfl | exact Or.inr rfl) (ev_t1 call_tuple_of o_tuple (by rfl) z_tuple bt_tuple (ev_lc (own := [("k", 11)]) rfl S.nd (iv_range1 (by rfl) z_range (ev_bin op_addA o_add ev_int (ev_bin op_mod o_mod (ev_bin op_div o_div (ev_var 3 rfl (by first | exact Or.inl rfl | exact Or.inr (Or.inl rfl) | exact Or.inr (Or.inr rfl))) ev_int) ev_int))) (blkOk_by (by show blkC ["script", "turn", "rich", "other", "low", "row", "size", "due", "place", "steps", "told", "k", "times_v"] (defScope s_law) _ _ = true; decide +kernel)) (glc_name (by decide)) (fun _ _ _ _ _ => (pg_name (i := 11) S.nd rfl (by first | exact Or.inl rfl | exact Or.inr rfl))) (fun _ _ _ _ _ => ts_nil) (fun _ _ _ _ _ => (ev_bin op_addA o_add (ev_var 4 rfl (by first | exact Or.inl rfl | exact Or.inr (Or.inl rfl) | exact Or.inr (Or.inr rfl))) (ev_bin op_mod o_mod (ev_bin op_div o_div (ev_var 2 rfl (by first | exact Or.inl rfl | exact Or.inr (Or.inl rfl) | exact Or.inr (Or.inr rfl))) (ev_bin op_addA o_add ev_int (ev_bin op_mulA o_mul ev_int (ev_var 11 rfl (by first | exact Or.inl rfl | exact Or.inr (Or.inl rfl) | exact Or.inr (Or.inr rfl)))))) (ev_bin op_sub o_sub ev_int (ev_var 4 rfl (by first | exact Or.inl rfl | exact Or.inr (Or.inl rfl) | exact Or.inr (Or.inr rfl))))))))))
  (sv_cons (sv_set 6 S.nd rfl (by first | exact Or.inl rfl | exact Or.inr rfl) (ev_b1 call_len o_len (by rfl) z_len bt_len (ev_var 5 rfl (by first | exact Or.inl rfl | exact Or.inr (Or.inl rfl) | exact Or.inr (Or.inr rfl)))))
  (sv_cons (sv_set 7 S.nd rfl (by first | exact Or.inl rfl | exact Or.inr rfl) (ev_t1 call_tuple_of o_tuple (by rfl) z_tuple bt_tuple (ev_lc (own := [("times_v", 12)]) rfl S.nd (iv_range1 (by rfl) z_range ev_int) (blkOk_by (by show blkC ["script", "turn", "rich", "other", "low", "row", "size", "due", "place", "steps", "told", "k", "times_v"] (defScope s_law) _ _ = true; decide +kernel)) (glc_name (by decide)) (fun _ _ _ _ _ => (pg_name (i := 12) S.nd rfl (by first | exact Or.inl rfl | exact Or.inr rfl))) (fun _ _ _ _ _ => ts_nil) (fun _ _ _ _ _ => (ev_call 13 F.f__law_trace takes0 hr (by rfl) (av_cons (ev_var 5 rfl (by first | exact Or.inl rfl | exact Or.inr (Or.inl rfl) | exact Or.inr (Or.inr rfl))) (av_cons (ev_var 12 rfl (by first | exact Or.inl rfl | exact Or.inr (Or.inl rfl) | exact Or.inr (Or.inr rfl))) av_nil)))))))
  (sv_cons (sv_if (PW.pt (tv_or (tv_not (tv_of (ev_call 12 F.f__law_same (takes_of rfl rfl rfl rfl) hr (by rfl) (av_cons (ev_call 9 F.f_growths (takes_of rfl rfl rfl rfl) hr (by rfl) (av_cons (ev_var 5 rfl (by first | exact Or.inl rfl | exact Or.inr (Or.inl rfl) | exact Or.inr (Or.inr rfl))) (av_cons ev_int av_nil))) (av_cons (ev_var 7 rfl (by first | exact Or.inl rfl | exact Or.inr (Or.inl rfl) | exact Or.inr (Or.inr rfl))) av_nil))))) (tv_or1 (tv_not (tv_of (ev_call 12 F.f__law_same (takes_of rfl rfl rfl rfl) hr (by rfl) (av_cons (ev_t1 call_tuple_of o_tuple (by rfl) z_tuple bt_tuple (ev_lc (own := [("times_v", 12)]) rfl S.nd (iv_range1 (by rfl) z_range ev_int) (blkOk_by (by show blkC ["script", "turn", "rich", "other", "low", "row", "size", "due", "place", "steps", "told", "k", "times_v"] (defScope s_law) _ _ = true; decide +kernel)) (glc_name (by decide)) (fun _ _ _ _ _ => (pg_name (i := 12) S.nd rfl (by first | exact Or.inl rfl | exact Or.inr rfl))) (fun _ _ _ _ _ => ts_nil) (fun _ _ _ _ _ => (ev_call 8 F.f_growth takes0 hr (by rfl) (av_cons (ev_var 5 rfl (by first | exact Or.inl rfl | exact Or.inr (Or.inl rfl) | exact Or.inr (Or.inr rfl))) (av_cons (ev_var 12 rfl (by first | exact Or.inl rfl | exact Or.inr (Or.inl rfl) | exact Or.inr (Or.inr rfl))) av_nil)))))) (av_cons (ev_var 7 rfl (by first | exact Or.inl rfl | exact Or.inr (Or.inl rfl) | exact Or.inr (Or.inr rfl))) av_nil)))))))) (sv_cons (sv_ret ev_bl)
  sv_nil) sv_nil)
  (sv_cons (sv_if (PW.pt (tv_and (tv_cmp op_gt o_gt bl_gt (ev_var 4 rfl (by first | exact Or.inl rfl | exact Or.inr (Or.inl rfl) | exact Or.inr (Or.inr rfl))) ev_int (nomark _)) (tv_and1 (tv_of (ev_b1 (cr_any rfl) o_any (by rfl) z_any bt_any (ev_lc (own := [("k", 11)]) rfl S.nd (iv_range1 (by rfl) z_range ev_int) (blkOk_by (by show blkC ["script", "turn", "rich", "other", "low", "row", "size", "due", "place", "steps", "told", "k", "times_v"] (defScope s_law) _ _ = true; decide +kernel)) (glc_name (by decide)) (fun _ _ _ _ _ => (pg_name (i := 11) S.nd rfl (by first | exact Or.inl rfl | exact Or.inr rfl))) (fun _ _ _ _ _ => ts_nil) (fun _ _ _ _ _ => (ev_cmp op_ge o_ge (ev_ix (ev_var 7 rfl (by first | exact Or.inl rfl | exact Or.inr (Or.inl rfl) | exact Or.inr (Or.inr rfl))) (ev_var 11 rfl (by first | exact Or.inl rfl | exact Or.inr (Or.inl rfl) | exact Or.inr (Or.inr rfl))) (fun _ _ => rfl)) (ev_ix (ev_var 7 rfl (by first | exact Or.inl rfl | exact Or.inr (Or.inl rfl) | exact Or.inr (Or.inr rfl))) (ev_bin op_addA o_add (ev_var 11 rfl (by first | exact Or.inl rfl | exact Or.inr (Or.inl rfl) | exact Or.inr (Or.inr rfl))) ev_int) (fun _ _ => rfl)) (nomark _))))))))) (sv_cons (sv_ret ev_bl)
  sv_nil) sv_nil)
  (sv_cons (sv_par 8 9 rfl S.nd rfl rfl (by decide) rfl rfl (av_cons (ev_bin op_mod o_mod (ev_bin op_div o_div (ev_var 2 rfl (by first | exact Or.inl rfl | exact Or.inr (Or.inl rfl) | exact Or.inr (Or.inr rfl))) ev_int) (ev_var 6 rfl (by first | exact Or.inl rfl | exact Or.inr (Or.inl rfl) | exact Or.inr (Or.inr rfl)))) (av_cons (ev_bin op_mod o_mod (ev_bin op_div o_div (ev_var 3 rfl (by first | exact Or.inl rfl | exact Or.inr (Or.inl rfl) | exact Or.inr (Or.inr rfl))) ev_int) ev_int) av_nil)) (by rfl))
  (sv_cons (sv_set 10 S.nd rfl (by first | exact Or.inl rfl | exact Or.inr rfl) (ev_call 7 F.f_entry (takes_of rfl rfl rfl rfl) hr (by rfl) (av_cons (ev_var 5 rfl (by first | exact Or.inl rfl | exact Or.inr (Or.inl rfl) | exact Or.inr (Or.inr rfl))) (av_cons (ev_var 8 rfl (by first | exact Or.inl rfl | exact Or.inr (Or.inl rfl) | exact Or.inr (Or.inr rfl))) (av_cons (ev_bin op_addA o_add (ev_var 9 rfl (by first | exact Or.inl rfl | exact Or.inr (Or.inl rfl) | exact Or.inr (Or.inr rfl))) (ev_bin op_mulA o_mul ev_int (ev_var 6 rfl (by first | exact Or.inl rfl | exact Or.inr (Or.inl rfl) | exact Or.inr (Or.inr rfl))))) av_nil)))))
  (sv_cons (sv_if (tv_not (tv_of (ev_call 12 F.f__law_same (takes_of rfl rfl rfl rfl) hr (by rfl) (av_cons (ev_var 10 rfl (by first | exact Or.inl rfl | exact Or.inr (Or.inl rfl) | exact Or.inr (Or.inr rfl))) (av_cons (ev_bin op_sub o_sub (ev_bin op_mulA o_mul (ev_ix (ev_var 7 rfl (by first | exact Or.inl rfl | exact Or.inr (Or.inl rfl) | exact Or.inr (Or.inr rfl))) ev_int (fun _ _ => rfl)) (ev_call 7 F.f_entry (takes_of rfl rfl rfl rfl) hr (by rfl) (av_cons (ev_var 5 rfl (by first | exact Or.inl rfl | exact Or.inr (Or.inl rfl) | exact Or.inr (Or.inr rfl))) (av_cons (ev_var 8 rfl (by first | exact Or.inl rfl | exact Or.inr (Or.inl rfl) | exact Or.inr (Or.inr rfl))) (av_cons (ev_bin op_addA o_add (ev_var 9 rfl (by first | exact Or.inl rfl | exact Or.inr (Or.inl rfl) | exact Or.inr (Or.inr rfl))) (ev_var 6 rfl (by first | exact Or.inl rfl | exact Or.inr (Or.inl rfl) | exact Or.inr (Or.inr rfl)))) av_nil))))) (ev_call 7 F.f_entry (takes_of rfl rfl rfl rfl) hr (by rfl) (av_cons (ev_var 5 rfl (by first | exact Or.inl rfl | exact Or.inr (Or.inl rfl) | exact Or.inr (Or.inr rfl))) (av_cons (ev_var 8 rfl (by first | exact Or.inl rfl | exact Or.inr (Or.inl rfl) | exact Or.inr (Or.inr rfl))) (av_cons (ev_var 9 rfl (by first | exact Or.inl rfl | exact Or.inr (Or.inl rfl) | exact Or.inr (Or.inr rfl))) av_nil))))) av_nil))))) (sv_cons (sv_ret ev_bl)
  sv_nil) sv_nil)
  sv_nil)))))))))))
  (sv_cons (sv_ret ev_bl)
  sv_nil))
/-- every def at every level -/
theorem all_fs {f_is_integer : Addr} {d_is_integer : FuncData} {f_check_integers : Addr} {d_check_integers : FuncData} {f_minus_continuant : Addr} {d_minus_continuant : FuncData} {f_times : Addr} {d_times : FuncData} {f_matrix_of : Addr} {d_matrix_of : FuncData} {f_check_period : Addr} {d_check_period : FuncData} {f_items : Addr} {d_items : FuncData} {f_entry : Addr} {d_entry : FuncData} {f_growth : Addr} {d_growth : FuncData} {f_growths : Addr} {d_growths : FuncData} {f__law_cell : Addr} {d__law_cell : FuncData} {f__law_rich : Addr} {d__law_rich : FuncData} {f__law_same : Addr} {d__law_same : FuncData} {f__law_trace : Addr} {d__law_trace : FuncData} (T : Nm K mg) (F_is_integer : Fun K "is_integer" "is_integer" s_is_integer f_is_integer d_is_integer) (B_is_integer : Binds K d_is_integer ["value"] []) (m_is_integer : mg "is_integer" = some (.ref f_is_integer)) (F_check_integers : Fun K "check_integers" "check_integers" s_check_integers f_check_integers d_check_integers) (B_check_integers : Binds K d_check_integers ["row"] []) (m_check_integers : mg "check_integers" = some (.ref f_check_integers)) (F_minus_continuant : Fun K "minus_continuant" "minus_continuant" s_minus_continuant f_minus_continuant d_minus_continuant) (B_minus_continuant : Binds K d_minus_continuant ["row"] []) (m_minus_continuant : mg "minus_continuant" = some (.ref f_minus_continuant)) (F_times : Fun K "times" "times" s_times f_times d_times) (B_times : Binds K d_times ["one", "other"] []) (m_times : mg "times" = some (.ref f_times)) (F_matrix_of : Fun K "matrix_of" "matrix_of" s_matrix_of f_matrix_of d_matrix_of) (B_matrix_of : Binds K d_matrix_of ["row"] []) (m_matrix_of : mg "matrix_of" = some (.ref f_matrix_of)) (F_check_period : Fun K "check_period" "check_period" s_check_period f_check_period d_check_period) (B_check_period : Binds K d_check_period ["row"] []) (m_check_period : mg "check_period" = some (.ref f_check_period)) (F_items : Fun K "items" "items" s_items f_items d_items) (B_items : Binds K d_items ["row", "first", "count"] []) (m_items : mg "items" = some (.ref f_items)) (F_entry : Fun K "entry" "entry" s_entry f_entry d_entry) (B_entry : Binds K d_entry ["row", "place", "steps"] []) (m_entry : mg "entry" = some (.ref f_entry)) (F_growth : Fun K "growth" "growth" s_growth f_growth d_growth) (B_growth : Binds K d_growth ["row", "times"] []) (m_growth : mg "growth" = some (.ref f_growth)) (F_growths : Fun K "growths" "growths" s_growths f_growths d_growths) (B_growths : Binds K d_growths ["row", "count"] []) (m_growths : mg "growths" = some (.ref f_growths)) (F__law_cell : Fun K "_law_cell" "_law_cell" s__law_cell f__law_cell d__law_cell) (B__law_cell : Binds K d__law_cell ["script", "k"] []) (m__law_cell : mg "_law_cell" = some (.ref f__law_cell)) (F__law_rich : Fun K "_law_rich" "_law_rich" s__law_rich f__law_rich d__law_rich) (B__law_rich : Binds K d__law_rich ["cell", "k"] []) (m__law_rich : mg "_law_rich" = some (.ref f__law_rich)) (F__law_same : Fun K "_law_same" "_law_same" s__law_same f__law_same d__law_same) (B__law_same : Binds K d__law_same ["told", "due"] []) (m__law_same : mg "_law_same" = some (.ref f__law_same)) (F__law_trace : Fun K "_law_trace" "_law_trace" s__law_trace f__law_trace d__law_trace) (B__law_trace : Binds K d__law_trace ["row", "times_v"] []) (m__law_trace : mg "_law_trace" = some (.ref f__law_trace)) : ∀ n, Fs P w K mg base C n
  | 0 => ⟨trivial, fk_of F_is_integer m_is_integer B_is_integer fn_zero, fk_of F_check_integers m_check_integers B_check_integers fn_zero, fk_of F_minus_continuant m_minus_continuant B_minus_continuant fn_zero, fk_of F_times m_times B_times fn_zero, fk_of F_matrix_of m_matrix_of B_matrix_of fn_zero, fk_of F_check_period m_check_period B_check_period fn_zero, fk_of F_items m_items B_items fn_zero, fk_of F_entry m_entry B_entry fn_zero, fk_of F_growth m_growth B_growth fn_zero, fk_of F_growths m_growths B_growths fn_zero, fk_of F__law_cell m__law_cell B__law_cell fn_zero, fk_of F__law_rich m__law_rich B__law_rich fn_zero, fk_of F__law_same m__law_same B__law_same fn_zero, fk_of F__law_trace m__law_trace B__law_trace fn_zero⟩
  | n + 1 => by
    have F := all_fs T F_is_integer B_is_integer m_is_integer F_check_integers B_check_integers m_check_integers F_minus_continuant B_minus_continuant m_minus_continuant F_times B_times m_times F_matrix_of B_matrix_of m_matrix_of F_check_period B_check_period m_check_period F_items B_items m_items F_entry B_entry m_entry F_growth B_growth m_growth F_growths B_growths m_growths F__law_cell B__law_cell m__law_cell F__law_rich B__law_rich m__law_rich F__law_same B__law_same m__law_same F__law_trace B__law_trace m__law_trace n
    exact ⟨trivial, fk_of F_is_integer m_is_integer B_is_integer (ok_is_integer F_is_integer T F), fk_of F_check_integers m_check_integers B_check_integers (ok_check_integers F_check_integers T F), fk_of F_minus_continuant m_minus_continuant B_minus_continuant (ok_minus_continuant F_minus_continuant T F), fk_of F_times m_times B_times (ok_times F_times T F), fk_of F_matrix_of m_matrix_of B_matrix_of (ok_matrix_of F_matrix_of T F), fk_of F_check_period m_check_period B_check_period (ok_check_period F_check_period T F), fk_of F_items m_items B_items (ok_items F_items T F), fk_of F_entry m_entry B_entry (ok_entry F_entry T F), fk_of F_growth m_growth B_growth (ok_growth F_growth T F), fk_of F_growths m_growths B_growths (ok_growths F_growths T F), fk_of F__law_cell m__law_cell B__law_cell (ok__law_cell F__law_cell T F), fk_of F__law_rich m__law_rich B__law_rich (ok__law_rich F__law_rich T F), fk_of F__law_same m__law_same B__law_same (ok__law_same F__law_same T F), fk_of F__law_trace m__law_trace B__law_trace (ok__law_trace F__law_trace T F)⟩
end
theorem all_mk {l : PySem.W.OpenLaw} {w : World} {K : PySem.W.Frag} {h : Heap} {mg : Str → Option Value} {fa f_is_integer f_check_integers f_minus_continuant f_times f_matrix_of f_check_period f_items f_entry f_growth f_growths f__law_cell f__law_rich f__law_same f__law_trace f_law : Addr} (C : CT) (X : K.In h) (G : h.Ns mainGlobals mg) (hfa : mg "law" = some (.ref fa))
    {od_is_integer od_check_integers od_minus_continuant od_times od_matrix_of od_check_period od_items od_entry od_growth od_growths od__law_cell od__law_rich od__law_same od__law_trace od_law an_is_integer an_check_integers an_minus_continuant an_times an_matrix_of an_check_period an_items an_entry an_growth an_growths an__law_cell an__law_rich an__law_same an__law_trace an_law : Option Addr} {sl_is_integer sl_check_integers sl_minus_continuant sl_times sl_matrix_of sl_check_period sl_items sl_entry sl_growth sl_growths sl__law_cell sl__law_rich sl__law_same sl__law_trace sl_law : Array (Option Value)} {oc_is_integer oc_check_integers oc_minus_continuant oc_times oc_matrix_of oc_check_period oc_items oc_entry oc_growth oc_growths oc__law_cell oc__law_rich oc__law_same oc__law_trace oc_law kV_is_integer kV_check_integers kV_minus_continuant kV_times kV_matrix_of kV_check_period kV_items kV_entry kV_growth kV_growths kV__law_cell kV__law_rich kV__law_same kV__law_trace kV_law dc_is_integer dc_check_integers dc_minus_continuant dc_times dc_matrix_of dc_check_period dc_items dc_entry dc_growth dc_growths dc__law_cell dc__law_rich dc__law_same dc__law_trace dc_law pm_is_integer pm_check_integers pm_minus_continuant pm_times pm_matrix_of pm_check_period pm_items pm_entry pm_growth pm_growths pm__law_cell pm__law_rich pm__law_same pm__law_trace pm_law cd_is_integer cd_check_integers cd_minus_continuant cd_times cd_matrix_of cd_check_period cd_items cd_entry cd_growth cd_growths cd__law_cell cd__law_rich cd__law_same cd__law_trace cd_law ct_is_integer ct_check_integers ct_minus_continuant ct_times ct_matrix_of ct_check_period ct_items ct_entry ct_growth ct_growths ct__law_cell ct__law_rich ct__law_same ct__law_trace ct_law : Value}
    (a_is_integer : PySem.W.nsIn K mainGlobals "is_integer" = some (some (.ref f_is_integer))) (l_is_integer : K.lookup f_is_integer = some ⟨oc_is_integer, od_is_integer, .func (PySem.W.fnOf "is_integer" "is_integer" (defArgs s_is_integer) (defBody s_is_integer) (defScope s_is_integer) .none kV_is_integer dc_is_integer pm_is_integer an_is_integer cd_is_integer ct_is_integer), sl_is_integer⟩) (c_is_integer : PySem.W.codeIn K cd_is_integer "is_integer" = true) (k_is_integer : PySem.W.keepIn K (.ref f_is_integer) = true)
    (a_check_integers : PySem.W.nsIn K mainGlobals "check_integers" = some (some (.ref f_check_integers))) (l_check_integers : K.lookup f_check_integers = some ⟨oc_check_integers, od_check_integers, .func (PySem.W.fnOf "check_integers" "check_integers" (defArgs s_check_integers) (defBody s_check_integers) (defScope s_check_integers) .none kV_check_integers dc_check_integers pm_check_integers an_check_integers cd_check_integers ct_check_integers), sl_check_integers⟩) (c_check_integers : PySem.W.codeIn K cd_check_integers "check_integers" = true) (k_check_integers : PySem.W.keepIn K (.ref f_check_integers) = true)
    (a_minus_continuant : PySem.W.nsIn K mainGlobals "minus_continuant" = some (some (.ref f_minus_continuant))) (l_minus_continuant : K.lookup f_minus_continuant = some ⟨oc_minus_continuant, od_minus_continuant, .func (PySem.W.fnOf "minus_continuant" "minus_continuant" (defArgs s_minus_continuant) (defBody s_minus_continuant) (defScope s_minus_continuant) .none kV_minus_continuant dc_minus_continuant pm_minus_continuant an_minus_continuant cd_minus_continuant ct_minus_continuant), sl_minus_continuant⟩) (c_minus_continuant : PySem.W.codeIn K cd_minus_continuant "minus_continuant" = true) (k_minus_continuant : PySem.W.keepIn K (.ref f_minus_continuant) = true)
    (a_times : PySem.W.nsIn K mainGlobals "times" = some (some (.ref f_times))) (l_times : K.lookup f_times = some ⟨oc_times, od_times, .func (PySem.W.fnOf "times" "times" (defArgs s_times) (defBody s_times) (defScope s_times) .none kV_times dc_times pm_times an_times cd_times ct_times), sl_times⟩) (c_times : PySem.W.codeIn K cd_times "times" = true) (k_times : PySem.W.keepIn K (.ref f_times) = true)
    (a_matrix_of : PySem.W.nsIn K mainGlobals "matrix_of" = some (some (.ref f_matrix_of))) (l_matrix_of : K.lookup f_matrix_of = some ⟨oc_matrix_of, od_matrix_of, .func (PySem.W.fnOf "matrix_of" "matrix_of" (defArgs s_matrix_of) (defBody s_matrix_of) (defScope s_matrix_of) .none kV_matrix_of dc_matrix_of pm_matrix_of an_matrix_of cd_matrix_of ct_matrix_of), sl_matrix_of⟩) (c_matrix_of : PySem.W.codeIn K cd_matrix_of "matrix_of" = true) (k_matrix_of : PySem.W.keepIn K (.ref f_matrix_of) = true)
    (a_check_period : PySem.W.nsIn K mainGlobals "check_period" = some (some (.ref f_check_period))) (l_check_period : K.lookup f_check_period = some ⟨oc_check_period, od_check_period, .func (PySem.W.fnOf "check_period" "check_period" (defArgs s_check_period) (defBody s_check_period) (defScope s_check_period) .none kV_check_period dc_check_period pm_check_period an_check_period cd_check_period ct_check_period), sl_check_period⟩) (c_check_period : PySem.W.codeIn K cd_check_period "check_period" = true) (k_check_period : PySem.W.keepIn K (.ref f_check_period) = true)
    (a_items : PySem.W.nsIn K mainGlobals "items" = some (some (.ref f_items))) (l_items : K.lookup f_items = some ⟨oc_items, od_items, .func (PySem.W.fnOf "items" "items" (defArgs s_items) (defBody s_items) (defScope s_items) .none kV_items dc_items pm_items an_items cd_items ct_items), sl_items⟩) (c_items : PySem.W.codeIn K cd_items "items" = true) (k_items : PySem.W.keepIn K (.ref f_items) = true)
    (a_entry : PySem.W.nsIn K mainGlobals "entry" = some (some (.ref f_entry))) (l_entry : K.lookup f_entry = some ⟨oc_entry, od_entry, .func (PySem.W.fnOf "entry" "entry" (defArgs s_entry) (defBody s_entry) (defScope s_entry) .none kV_entry dc_entry pm_entry an_entry cd_entry ct_entry), sl_entry⟩) (c_entry : PySem.W.codeIn K cd_entry "entry" = true) (k_entry : PySem.W.keepIn K (.ref f_entry) = true)
    (a_growth : PySem.W.nsIn K mainGlobals "growth" = some (some (.ref f_growth))) (l_growth : K.lookup f_growth = some ⟨oc_growth, od_growth, .func (PySem.W.fnOf "growth" "growth" (defArgs s_growth) (defBody s_growth) (defScope s_growth) .none kV_growth dc_growth pm_growth an_growth cd_growth ct_growth), sl_growth⟩) (c_growth : PySem.W.codeIn K cd_growth "growth" = true) (k_growth : PySem.W.keepIn K (.ref f_growth) = true)
    (a_growths : PySem.W.nsIn K mainGlobals "growths" = some (some (.ref f_growths))) (l_growths : K.lookup f_growths = some ⟨oc_growths, od_growths, .func (PySem.W.fnOf "growths" "growths" (defArgs s_growths) (defBody s_growths) (defScope s_growths) .none kV_growths dc_growths pm_growths an_growths cd_growths ct_growths), sl_growths⟩) (c_growths : PySem.W.codeIn K cd_growths "growths" = true) (k_growths : PySem.W.keepIn K (.ref f_growths) = true)
    (a__law_cell : PySem.W.nsIn K mainGlobals "_law_cell" = some (some (.ref f__law_cell))) (l__law_cell : K.lookup f__law_cell = some ⟨oc__law_cell, od__law_cell, .func (PySem.W.fnOf "_law_cell" "_law_cell" (defArgs s__law_cell) (defBody s__law_cell) (defScope s__law_cell) .none kV__law_cell dc__law_cell pm__law_cell an__law_cell cd__law_cell ct__law_cell), sl__law_cell⟩) (c__law_cell : PySem.W.codeIn K cd__law_cell "_law_cell" = true) (k__law_cell : PySem.W.keepIn K (.ref f__law_cell) = true)
    (a__law_rich : PySem.W.nsIn K mainGlobals "_law_rich" = some (some (.ref f__law_rich))) (l__law_rich : K.lookup f__law_rich = some ⟨oc__law_rich, od__law_rich, .func (PySem.W.fnOf "_law_rich" "_law_rich" (defArgs s__law_rich) (defBody s__law_rich) (defScope s__law_rich) .none kV__law_rich dc__law_rich pm__law_rich an__law_rich cd__law_rich ct__law_rich), sl__law_rich⟩) (c__law_rich : PySem.W.codeIn K cd__law_rich "_law_rich" = true) (k__law_rich : PySem.W.keepIn K (.ref f__law_rich) = true)
    (a__law_same : PySem.W.nsIn K mainGlobals "_law_same" = some (some (.ref f__law_same))) (l__law_same : K.lookup f__law_same = some ⟨oc__law_same, od__law_same, .func (PySem.W.fnOf "_law_same" "_law_same" (defArgs s__law_same) (defBody s__law_same) (defScope s__law_same) .none kV__law_same dc__law_same pm__law_same an__law_same cd__law_same ct__law_same), sl__law_same⟩) (c__law_same : PySem.W.codeIn K cd__law_same "_law_same" = true) (k__law_same : PySem.W.keepIn K (.ref f__law_same) = true)
    (a__law_trace : PySem.W.nsIn K mainGlobals "_law_trace" = some (some (.ref f__law_trace))) (l__law_trace : K.lookup f__law_trace = some ⟨oc__law_trace, od__law_trace, .func (PySem.W.fnOf "_law_trace" "_law_trace" (defArgs s__law_trace) (defBody s__law_trace) (defScope s__law_trace) .none kV__law_trace dc__law_trace pm__law_trace an__law_trace cd__law_trace ct__law_trace), sl__law_trace⟩) (c__law_trace : PySem.W.codeIn K cd__law_trace "_law_trace" = true) (k__law_trace : PySem.W.keepIn K (.ref f__law_trace) = true)
    (a_law : PySem.W.nsIn K mainGlobals "law" = some (some (.ref f_law))) (l_law : K.lookup f_law = some ⟨oc_law, od_law, .func (PySem.W.fnOf "law" "law" (defArgs s_law) (defBody s_law) (defScope s_law) .none kV_law dc_law pm_law an_law cd_law ct_law), sl_law⟩) (c_law : PySem.W.codeIn K cd_law "law" = true) (k_law : PySem.W.keepIn K (.ref f_law) = true)
    (z_abs : PySem.W.nsIn K mainGlobals "abs" = some none)
    (z_all : PySem.W.nsIn K mainGlobals "all" = some none)
    (z_any : PySem.W.nsIn K mainGlobals "any" = some none)
    (z_bool : PySem.W.nsIn K mainGlobals "bool" = some none)
    (z_int : PySem.W.nsIn K mainGlobals "int" = some none)
    (z_isinstance : PySem.W.nsIn K mainGlobals "isinstance" = some none)
    (z_len : PySem.W.nsIn K mainGlobals "len" = some none)
    (z_range : PySem.W.nsIn K mainGlobals "range" = some none)
    (z_tuple : PySem.W.nsIn K mainGlobals "tuple" = some none)
    (z_zip : PySem.W.nsIn K mainGlobals "zip" = some none)
    {t_MOST_PERIOD : Tok} (q_MOST_PERIOD : PySem.W.nsIn K mainGlobals "MOST_PERIOD" = some (some (.int 30 t_MOST_PERIOD)))
    {t_MOST_STEPS : Tok} (q_MOST_STEPS : PySem.W.nsIn K mainGlobals "MOST_STEPS" = some (some (.int 400 t_MOST_STEPS)))
    (n : Nat) : ∃ fd : FuncData, (∀ (s : Shared) (v : Value), BindsTo s fd ⟨[v], []⟩ [("script", v)]) ∧ ∀ base : Heap, K.In base → base.Ns mainGlobals mg → FnOk l.prog w K mg base (L2.CX l.prog w) (n + 1) fa fd ["script"] (spG K C (callF tab (n + 1) 14)) := by
  have e := hfa.symm.trans (PySem.W.mg_of X G a_law)
  cases e
  have T : Nm K mg := ⟨trivial, PySem.W.mg_none_of X G z_abs, PySem.W.mg_none_of X G z_all, PySem.W.mg_none_of X G z_any, PySem.W.mg_none_of X G z_bool, PySem.W.mg_none_of X G z_int, PySem.W.mg_none_of X G z_isinstance, PySem.W.mg_none_of X G z_len, PySem.W.mg_none_of X G z_range, PySem.W.mg_none_of X G z_tuple, PySem.W.mg_none_of X G z_zip, ⟨_, PySem.W.mg_of X G q_MOST_PERIOD⟩, ⟨_, PySem.W.mg_of X G q_MOST_STEPS⟩⟩
  have F_is_integer := fun_mk (st := s_is_integer) l_is_integer c_is_integer k_is_integer
  have B_is_integer := F_is_integer.binds (ps := ["value"]) fun _ _ _ _ _ _ us hl => match us, hl with | [_], _ => rfl
  have F_check_integers := fun_mk (st := s_check_integers) l_check_integers c_check_integers k_check_integers
  have B_check_integers := F_check_integers.binds (ps := ["row"]) fun _ _ _ _ _ _ us hl => match us, hl with | [_], _ => rfl
  have F_minus_continuant := fun_mk (st := s_minus_continuant) l_minus_continuant c_minus_continuant k_minus_continuant
  have B_minus_continuant := F_minus_continuant.binds (ps := ["row"]) fun _ _ _ _ _ _ us hl => match us, hl with | [_], _ => rfl
  have F_times := fun_mk (st := s_times) l_times c_times k_times
  have B_times := F_times.binds (ps := ["one", "other"]) fun _ _ _ _ _ _ us hl => match us, hl with | [_, _], _ => rfl
  have F_matrix_of := fun_mk (st := s_matrix_of) l_matrix_of c_matrix_of k_matrix_of
  have B_matrix_of := F_matrix_of.binds (ps := ["row"]) fun _ _ _ _ _ _ us hl => match us, hl with | [_], _ => rfl
  have F_check_period := fun_mk (st := s_check_period) l_check_period c_check_period k_check_period
  have B_check_period := F_check_period.binds (ps := ["row"]) fun _ _ _ _ _ _ us hl => match us, hl with | [_], _ => rfl
  have F_items := fun_mk (st := s_items) l_items c_items k_items
  have B_items := F_items.binds (ps := ["row", "first", "count"]) fun _ _ _ _ _ _ us hl => match us, hl with | [_, _, _], _ => rfl
  have F_entry := fun_mk (st := s_entry) l_entry c_entry k_entry
  have B_entry := F_entry.binds (ps := ["row", "place", "steps"]) fun _ _ _ _ _ _ us hl => match us, hl with | [_, _, _], _ => rfl
  have F_growth := fun_mk (st := s_growth) l_growth c_growth k_growth
  have B_growth := F_growth.binds (ps := ["row", "times"]) fun _ _ _ _ _ _ us hl => match us, hl with | [_, _], _ => rfl
  have F_growths := fun_mk (st := s_growths) l_growths c_growths k_growths
  have B_growths := F_growths.binds (ps := ["row", "count"]) fun _ _ _ _ _ _ us hl => match us, hl with | [_, _], _ => rfl
  have F__law_cell := fun_mk (st := s__law_cell) l__law_cell c__law_cell k__law_cell
  have B__law_cell := F__law_cell.binds (ps := ["script", "k"]) fun _ _ _ _ _ _ us hl => match us, hl with | [_, _], _ => rfl
  have F__law_rich := fun_mk (st := s__law_rich) l__law_rich c__law_rich k__law_rich
  have B__law_rich := F__law_rich.binds (ps := ["cell", "k"]) fun _ _ _ _ _ _ us hl => match us, hl with | [_, _], _ => rfl
  have F__law_same := fun_mk (st := s__law_same) l__law_same c__law_same k__law_same
  have B__law_same := F__law_same.binds (ps := ["told", "due"]) fun _ _ _ _ _ _ us hl => match us, hl with | [_, _], _ => rfl
  have F__law_trace := fun_mk (st := s__law_trace) l__law_trace c__law_trace k__law_trace
  have B__law_trace := F__law_trace.binds (ps := ["row", "times_v"]) fun _ _ _ _ _ _ us hl => match us, hl with | [_, _], _ => rfl
  have F_law := fun_mk (st := s_law) l_law c_law k_law
  exact ⟨PySem.W.fnOf "law" "law" (defArgs s_law) (defBody s_law) (defScope s_law) .none kV_law dc_law pm_law an_law cd_law ct_law, fun s v => .of_eq rfl, fun base _ _ => ok_law F_law T (all_fs T F_is_integer B_is_integer (PySem.W.mg_of X G a_is_integer) F_check_integers B_check_integers (PySem.W.mg_of X G a_check_integers) F_minus_continuant B_minus_continuant (PySem.W.mg_of X G a_minus_continuant) F_times B_times (PySem.W.mg_of X G a_times) F_matrix_of B_matrix_of (PySem.W.mg_of X G a_matrix_of) F_check_period B_check_period (PySem.W.mg_of X G a_check_period) F_items B_items (PySem.W.mg_of X G a_items) F_entry B_entry (PySem.W.mg_of X G a_entry) F_growth B_growth (PySem.W.mg_of X G a_growth) F_growths B_growths (PySem.W.mg_of X G a_growths) F__law_cell B__law_cell (PySem.W.mg_of X G a__law_cell) F__law_rich B__law_rich (PySem.W.mg_of X G a__law_rich) F__law_same B__law_same (PySem.W.mg_of X G a__law_same) F__law_trace B__law_trace (PySem.W.mg_of X G a__law_trace) n)⟩
end L_k12
end
open PySem PySem.W PyProof.Rows
set_option maxRecDepth 100000 in
set_option maxHeartbeats 0 in
theorem PySem.Challenge.cw_friezewright_k12_whole_growths_holds : PySem.Challenge.rw_friezewright_k12_whole_growths.Holds := by
  w_on; o_law; k_head; (case hw => w_witness2)
  k_fill
  refine L2.walk_of (l := PySem.Challenge.rw_friezewright_k12_whole_growths) (n := 63) (k := 12) (x := "script") (CX := fun w => L2.CX PySem.Challenge.pw_friezewright_k12_whole_growths w) (sp := fun w => Mi.spG _ (fun _ => (.none, "")) (Mi.callF L_k12.tab 12 14)) rfl (by decide) rfl ⟨rfl, by decide, by decide⟩ (fun w h Y => PySem.W.kIn_of Y) ?F (fun w H a ns hl ho hS => Mi.sp_law ho hS (L_k12.law_true ns hl)) (fun w H s e s' h => Mi.cx_false h)
  case F =>
    intro w mg fa h KX G hmg
    refine' L_k12.all_mk (fun _ => (.none, "")) KX G hmg ?a_is_integer ?l_is_integer ?c_is_integer ?k_is_integer ?a_check_integers ?l_check_integers ?c_check_integers ?k_check_integers ?a_minus_continuant ?l_minus_continuant ?c_minus_continuant ?k_minus_continuant ?a_times ?l_times ?c_times ?k_times ?a_matrix_of ?l_matrix_of ?c_matrix_of ?k_matrix_of ?a_check_period ?l_check_period ?c_check_period ?k_check_period ?a_items ?l_items ?c_items ?k_items ?a_entry ?l_entry ?c_entry ?k_entry ?a_growth ?l_growth ?c_growth ?k_growth ?a_growths ?l_growths ?c_growths ?k_growths ?a__law_cell ?l__law_cell ?c__law_cell ?k__law_cell ?a__law_rich ?l__law_rich ?c__law_rich ?k__law_rich ?a__law_same ?l__law_same ?c__law_same ?k__law_same ?a__law_trace ?l__law_trace ?c__law_trace ?k__law_trace ?a_law ?l_law ?c_law ?k_law ?z_abs ?z_all ?z_any ?z_bool ?z_int ?z_isinstance ?z_len ?z_range ?z_tuple ?z_zip ?q_MOST_PERIOD ?q_MOST_STEPS 11
    (case a_is_integer => k_is); (case l_is_integer => k_is); (case c_is_integer => k_is); (case k_is_integer => k_is); (case a_check_integers => k_is); (case l_check_integers => k_is); (case c_check_integers => k_is); (case k_check_integers => k_is); (case a_minus_continuant => k_is); (case l_minus_continuant => k_is); (case c_minus_continuant => k_is); (case k_minus_continuant => k_is); (case a_times => k_is); (case l_times => k_is); (case c_times => k_is); (case k_times => k_is); (case a_matrix_of => k_is); (case l_matrix_of => k_is); (case c_matrix_of => k_is); (case k_matrix_of => k_is); (case a_check_period => k_is); (case l_check_period => k_is); (case c_check_period => k_is); (case k_check_period => k_is); (case a_items => k_is); (case l_items => k_is); (case c_items => k_is); (case k_items => k_is); (case a_entry => k_is); (case l_entry => k_is); (case c_entry => k_is); (case k_entry => k_is); (case a_growth => k_is); (case l_growth => k_is); (case c_growth => k_is); (case k_growth => k_is); (case a_growths => k_is); (case l_growths => k_is); (case c_growths => k_is); (case k_growths => k_is); (case a__law_cell => k_is); (case l__law_cell => k_is); (case c__law_cell => k_is); (case k__law_cell => k_is); (case a__law_rich => k_is); (case l__law_rich => k_is); (case c__law_rich => k_is); (case k__law_rich => k_is); (case a__law_same => k_is); (case l__law_same => k_is); (case c__law_same => k_is); (case k__law_same => k_is); (case a__law_trace => k_is); (case l__law_trace => k_is); (case c__law_trace => k_is); (case k__law_trace => k_is); (case a_law => k_is); (case l_law => k_is); (case c_law => k_is); (case k_law => k_is); (case z_abs => k_is); (case z_all => k_is); (case z_any => k_is); (case z_bool => k_is); (case z_int => k_is); (case z_isinstance => k_is); (case z_len => k_is); (case z_range => k_is); (case z_tuple => k_is); (case z_zip => k_is); (case q_MOST_PERIOD => k_is); (case q_MOST_STEPS => k_is)
