import PyProof.Rows.All
import PySem.Str
import HandS.TupAny
import HandS.Conv
import HandS.Dict
import HandS.IsInst
import KE.KDictPairs
import Wide.All
import OpenK.AllK
import Wide.FinOn
import HandS.ForMost
import HandS.ForExc
import HandS.Walk
import HandS.Flow
import HandS.More
import HandS.ExcIs
import HandS.EndBits
import HandS.HeadEnd
import HandS.HeadHook2
import HandS.Head2
import HandS.SortKw
import HandS.SortInts
import HandS.Wide
import HandS.Codes
import KE.KEqNest
import PyProof.EqAt
import PyProof.EqKinds
import PyProof.NeKinds
import KE.KEqDict
import HandS.WideBits
import HandS.TupLe
import HandS.Small
import HandS.Records
import HandS.Style
import HandS.ExcOwn
import HandS.TryOnly
import KE.GoesEnum
import HandS.ListItems
import PyProof.Rows.StrMeet
import HandS.Finally
import HandS.SortOrd
import HandS.SortRule
import HandS.DictTup
import PyProof.Rows.SortKeyStr
import PyProof.DictValues
import KE.KDictList
import HandS.HotCalls
import HandS.HeadHook3
import HandS.RaiseMore
import HandS.FStr
import HandS.CallSlots
import PyProof.FitsInt
import PySem.Challenge.RW_scopestore_k84_points_as_texts
set_option Elab.async false
set_option linter.all false
set_option maxRecDepth 100000
set_option maxHeartbeats 0
/-! MPy: a small language of values, memory and combinators, into which each def of a law's text is printed.
Tuples are values here; lists, dicts and instances lie in the memory. Everything outside the language is `bad`. -/
namespace MP
open PySem

abbrev Key := Sum Int Str

inductive MV where
  | non | bl (b : Bool) | int (i : Int) | str (s : Str) | tup (xs : List MV) | ref (n : Nat) | exn (c : Str)
  deriving Inhabited

inductive MO where
  | lst (xs : List MV)
  | rol (xs : List MV)
  | dct (lk : Bool) (kvs : List (Key × MV))
  | ins (C : Str) (fs : List (Str × MV))
  deriving Inhabited

abbrev Mem := List MO
abbrev Fr := List (Option MV)

inductive Res (α : Type) where
  | ok (a : α) (m : Mem)
  | exc (c : Str) (m : Mem)
  | bad

namespace Res
def bind {α β : Type} (r : Res α) (f : α → Mem → Res β) : Res β := match r with
  | .ok a m => f a m
  | .exc c m => .exc c m
  | .bad => .bad
@[simp] theorem bind_ok {α β : Type} (a : α) (m : Mem) (f : α → Mem → Res β) : (Res.ok a m).bind f = f a m := rfl
@[simp] theorem bind_exc {α β : Type} (c : Str) (m : Mem) (f : α → Mem → Res β) : (Res.exc c m : Res α).bind f = .exc c m := rfl
@[simp] theorem bind_bad {α β : Type} (f : α → Mem → Res β) : (Res.bad : Res α).bind f = .bad := rfl
/-- what must hold of every end -/
def wp {α : Type} (r : Res α) (Q : α → Mem → Prop) (E : Str → Mem → Prop) : Prop := match r with
  | .ok a m => Q a m
  | .exc c m => E c m
  | .bad => False
@[simp] theorem wp_ok {α : Type} (a : α) (m : Mem) (Q : α → Mem → Prop) (E : Str → Mem → Prop) : (Res.ok a m).wp Q E = Q a m := rfl
@[simp] theorem wp_exc {α : Type} (c : Str) (m : Mem) (Q : α → Mem → Prop) (E : Str → Mem → Prop) : (Res.exc c m : Res α).wp Q E = E c m := rfl
@[simp] theorem wp_bad {α : Type} (Q : α → Mem → Prop) (E : Str → Mem → Prop) : (Res.bad : Res α).wp Q E = False := rfl
theorem wp_bind {α β : Type} (r : Res α) (f : α → Mem → Res β) (Q : β → Mem → Prop) (E : Str → Mem → Prop) : (r.bind f).wp Q E = r.wp (fun a m => (f a m).wp Q E) E := by
  cases r <;> rfl
theorem wp_mono {α : Type} {r : Res α} {Q Q' : α → Mem → Prop} {E E' : Str → Mem → Prop} (h : r.wp Q E) (hq : ∀ a m, Q a m → Q' a m) (he : ∀ c m, E c m → E' c m) : r.wp Q' E' := by
  cases r with
  | ok a m => exact hq a m h
  | exc c m => exact he c m h
  | bad => exact h
end Res

abbrev ME := Fr → Mem → Res MV
abbrev MA := Fr → Mem → Res (List MV)
abbrev MT := Fr → Mem → Res Bool
abbrev MFn := List MV → Mem → Res MV

/-! ### limits of the model -/
@[irreducible] def BIG : Nat := 2 ^ 400000
@[irreducible] def DIVB : Nat := 2 ^ 8999
@[irreducible] def STRB : Nat := 2 ^ 1900
def LINE : Nat := 16777216
def mulOk (i j : Int) : Prop := i.natAbs < 2 ^ 64 ∨ j.natAbs < 2 ^ 64 ∨ (i.natAbs < BIG ∧ j.natAbs < BIG)
instance (i j : Int) : Decidable (mulOk i j) := by unfold mulOk; infer_instance
theorem big_le {n : Nat} (h : n ≤ 400000) : 2 ^ n ≤ BIG := by
  unfold BIG
  exact Nat.pow_le_pow_right (by decide) h
theorem divb_le {n : Nat} (h : n ≤ 8999) : 2 ^ n ≤ DIVB := by
  unfold DIVB
  exact Nat.pow_le_pow_right (by decide) h
theorem strb_le {n : Nat} (h : n ≤ 1900) : 2 ^ n ≤ STRB := by
  unfold STRB
  exact Nat.pow_le_pow_right (by decide) h

/-! ### dicts as lists of pairs -/
def getK (kvs : List (Key × MV)) (k : Key) : Option MV := (kvs.find? fun kv => decide (kv.1 = k)).map (·.2)
def setK (kvs : List (Key × MV)) (k : Key) (v : MV) : List (Key × MV) :=
  if (kvs.any fun kv => decide (kv.1 = k)) then kvs.map fun kv => if kv.1 = k then (kv.1, v) else kv else kvs ++ [(k, v)]
def delK (kvs : List (Key × MV)) (k : Key) : List (Key × MV) := kvs.filter fun kv => decide (kv.1 ≠ k)
def keyOf : MV → Option Key
  | .int i => some (.inl i)
  | .str s => some (.inr s)
  | _ => none
def ofKey : Key → MV
  | .inl i => .int i
  | .inr s => .str s
@[simp] theorem keyOf_ofKey (k : Key) : keyOf (ofKey k) = some k := by cases k <;> rfl

/-! ### fields of instances -/
def getF (fs : List (Str × MV)) (f : Str) : Option MV := fs.lookup f
def setF (f : Str) (v : MV) : List (Str × MV) → List (Str × MV)
  | [] => [(f, v)]
  | (g, u) :: r => if g = f then (g, v) :: r else (g, u) :: setF f v r

/-! ### equality -/
def numOf : MV → Option Int
  | .int i => some i
  | .bl b => some (if b then 1 else 0)
  | _ => none
def eqL (e : MV → MV → Option Bool) : List MV → List MV → Option Bool
  | [], [] => some true
  | x :: xs, y :: ys => match e x y, eqL e xs ys with
    | some a, some b => some (a && b)
    | _, _ => none
  | [], _ :: _ => some false
  | _ :: _, [] => some false
def eqD (e : MV → MV → Option Bool) (ys : List (Key × MV)) : List (Key × MV) → Option Bool
  | [] => some true
  | (k, x) :: r => match getK ys k with
    | none => match eqD e ys r with
      | some _ => some false
      | none => none
    | some y => match e x y, eqD e ys r with
      | some a, some b => some (a && b)
      | _, _ => none
/-- what a value is, as far as == asks -/
inductive Kd where
  | non | num (i : Int) | str (s : Str) | tup | lst | dct
def kd (m : Mem) : MV → Option Kd
  | .non => some .non
  | .bl b => some (.num (if b then 1 else 0))
  | .int i => some (.num i)
  | .str s => some (.str s)
  | .tup _ => some .tup
  | .ref n => match m[n]? with
    | some (.lst _) => some .lst
    | some (.dct _ _) => some .dct
    | _ => none
  | .exn _ => none
def eqK : Kd → Kd → Option Bool
  | .non, .non => some true
  | .num i, .num j => some (decide (i = j))
  | .str a, .str b => some (decide (a = b))
  | .tup, .tup => none
  | .lst, .lst => none
  | .dct, .dct => none
  | _, _ => some false
/-- lists, tuples, dicts at any depth up to the number; none: not in the language -/
def eqF : Nat → Mem → MV → MV → Option Bool
  | 0, _, _, _ => none
  | d + 1, m, .tup xs, .tup ys => eqL (eqF d m) xs ys
  | d + 1, m, .ref a, .ref b => match m[a]?, m[b]? with
    | some (.lst xs), some (.lst ys) => if a = b then some true else if xs.length = ys.length then eqL (eqF d m) xs ys else some false
    | some (.dct _ xs), some (.dct _ ys) => if a = b then some true else if xs.length = ys.length then eqD (eqF d m) ys xs else some false
    | some (.lst _), some (.dct _ _) => some false
    | some (.dct _ _), some (.lst _) => some false
    | _, _ => none
  | _ + 1, m, x, y => match kd m x, kd m y with
    | some k, some l => eqK k l
    | _, _ => none
def isD : Kd → Bool
  | .dct => true
  | _ => false
/-- != ; of a dict and something else: not in the language, but of a text and a dict -/
def neF (d : Nat) (m : Mem) (x y : MV) : Option Bool := match kd m x, kd m y with
  | some k, some l => if isD k = isD l then (eqF d m x y).map fun b => !b else match k, l with
    | .str _, .dct => some true
    | _, _ => none
  | _, _ => none
def DEEP : Nat := 24

/-! ### places in sequences -/
def atI {α : Type} (xs : List α) (i : Int) : Option α :=
  if 0 ≤ i then xs[i.toNat]? else if 0 ≤ i + (xs.length : Int) then xs[(i + (xs.length : Int)).toNat]? else none
def atN (n : Nat) (i : Int) : Option Nat :=
  if 0 ≤ i then (if i < n then some i.toNat else none) else if 0 ≤ i + (n : Int) then some (i + (n : Int)).toNat else none
/-- a slice's end, as Python clips it -/
def clip (n : Nat) (d : Nat) : Option Int → Nat
  | none => d
  | some i => if 0 ≤ i then min i.toNat n else (i + (n : Int)).toNat
def cutL {α : Type} (xs : List α) (lo hi : Option Int) : List α :=
  (xs.take (clip xs.length xs.length hi)).drop (clip xs.length 0 lo)
def chr (c : Nat) : MV := .str ⟨#[c]⟩
def signs (s : Str) : List MV := s.cps.toList.map chr

/-! ### expressions -/
def eVar (i : Nat) : ME := fun fr m => match fr[i]? with
  | some (some v) => .ok v m
  | _ => .bad
def eC (v : MV) : ME := fun _ m => .ok v m
def eInt (i : Int) : ME := eC (.int i)
def eStr (s : Str) : ME := eC (.str s)
def e1 (f : MV → Mem → Res MV) (a : ME) : ME := fun fr m => (a fr m).bind f
def e2 (f : MV → MV → Mem → Res MV) (a b : ME) : ME := fun fr m => (a fr m).bind fun x m1 => (b fr m1).bind fun y m2 => f x y m2
def new (o : MO) (m : Mem) : Res MV := .ok (.ref m.length) (m ++ [o])

def oAdd (x y : MV) (m : Mem) : Res MV := match x, y with
  | .int i, .int j => .ok (.int (i + j)) m
  | .str a, .str b => if a.length + b.length ≤ LINE then .ok (.str (a ++ b)) m else .bad
  | .tup xs, .tup ys => if xs.length ≤ LINE ∧ ys.length ≤ LINE ∧ (xs ++ ys).length ≤ LINE then .ok (.tup (xs ++ ys)) m else .bad
  | .ref a, .ref b => match m[a]?, m[b]? with
    | some (.lst xs), some (.lst ys) => if (xs ++ ys).length ≤ LINE then new (.lst (xs ++ ys)) m else .bad
    | _, _ => .bad
  | _, _ => .bad
def oSub (x y : MV) (m : Mem) : Res MV := match x, y with
  | .int i, .int j => .ok (.int (i - j)) m
  | _, _ => .bad
def repS (s : Str) (n : Nat) : Str := ⟨((List.replicate n s.cps.toList).flatten).toArray⟩
def oMul (x y : MV) (m : Mem) : Res MV := match x, y with
  | .int i, .int j => if mulOk i j then .ok (.int (i * j)) m else .bad
  | .ref a, .int j => match m[a]? with
    | some (.lst xs) => if 0 ≤ j ∧ j ≤ 100000 ∧ xs.length * j.toNat ≤ LINE then new (.lst ((List.replicate j.toNat xs).flatten)) m else .bad
    | _ => .bad
  | .str a, .int j => if 0 ≤ j ∧ j ≤ 100000 ∧ a.length * j.toNat ≤ LINE then .ok (.str (repS a j.toNat)) m else .bad
  | _, _ => .bad
def oDiv (x y : MV) (m : Mem) : Res MV := match x, y with
  | .int i, .int j => if j ≠ 0 ∧ j.natAbs < DIVB then .ok (.int (i.fdiv j)) m else .bad
  | _, _ => .bad
def oMod (x y : MV) (m : Mem) : Res MV := match x, y with
  | .int i, .int j => if j ≠ 0 then .ok (.int (i.fmod j)) m else .bad
  | _, _ => .bad
def oNeg (x : MV) (m : Mem) : Res MV := match x with
  | .int i => .ok (.int (-i)) m
  | _ => .bad
def oAbs (x : MV) (m : Mem) : Res MV := match x with
  | .int i => .ok (.int (if i < 0 then -i else i)) m
  | _ => .bad
def oEq (x y : MV) (m : Mem) : Res MV := match eqF DEEP m x y with
  | some b => .ok (.bl b) m
  | none => .bad
def oNe (x y : MV) (m : Mem) : Res MV := match neF DEEP m x y with
  | some b => .ok (.bl b) m
  | none => .bad
def oLt (x y : MV) (m : Mem) : Res MV := match x, y with
  | .int i, .int j => .ok (.bl (decide (i < j))) m
  | _, _ => .bad
def oLe (x y : MV) (m : Mem) : Res MV := match x, y with
  | .int i, .int j => .ok (.bl (decide (i ≤ j))) m
  | _, _ => .bad
def oGt (x y : MV) (m : Mem) : Res MV := match x, y with
  | .int i, .int j => .ok (.bl (decide (j < i))) m
  | _, _ => .bad
def oGe (x y : MV) (m : Mem) : Res MV := match x, y with
  | .int i, .int j => .ok (.bl (decide (j ≤ i))) m
  | _, _ => .bad
def oIsN (x : MV) (m : Mem) : Res MV := match x with
  | .non => .ok (.bl true) m
  | .exn _ => .bad
  | _ => .ok (.bl false) m
def oNotN (x : MV) (m : Mem) : Res MV := match x with
  | .non => .ok (.bl false) m
  | .exn _ => .bad
  | _ => .ok (.bl true) m
/-- x in a sequence of flat values -/
def inS (c z : Str) : Option Bool := match c.cps.toList with
  | [k] => some (decide (k ∈ z.cps.toList))
  | _ => none
def flat : MV → Bool
  | .non => true
  | .bl _ => true
  | .int _ => true
  | .str _ => true
  | _ => false
def eqFl : MV → MV → Bool
  | .non, .non => true
  | .bl a, .bl b => a == b
  | .bl a, .int b => (if a then 1 else 0) == b
  | .int a, .bl b => a == (if b then 1 else 0)
  | .int a, .int b => a == b
  | .str a, .str b => a == b
  | _, _ => false
def inFl (x : MV) (xs : List MV) : Option Bool := if flat x = true ∧ xs.all flat = true then some (xs.any fun y => eqFl y x) else none
def inV (x c : MV) (m : Mem) : Option Bool := match c with
  | .tup xs => inFl x xs
  | .str z => match x with
    | .str s => inS s z
    | _ => none
  | .ref n => match m[n]? with
    | some (.lst xs) => inFl x xs
    | some (.dct _ kvs) => (keyOf x).map fun k => (getK kvs k).isSome
    | _ => none
  | _ => none
def oIn (x c : MV) (m : Mem) : Res MV := match inV x c m with
  | some b => .ok (.bl b) m
  | none => .bad
def oNotIn (x c : MV) (m : Mem) : Res MV := match inV x c m with
  | some b => .ok (.bl (!b)) m
  | none => .bad
/-- a[i], d[k] -/
def oIx (x y : MV) (m : Mem) : Res MV := match x, y with
  | .tup xs, .int i => match atI xs i with
    | some v => .ok v m
    | none => .bad
  | .str s, .int i => match atI s.cps.toList i with
    | some c => if s.length ≤ LINE then .ok (chr c) m else .bad
    | none => .bad
  | .ref n, _ => match m[n]? with
    | some (.lst xs) => match y with
      | .int i => match atI xs i with
        | some v => .ok v m
        | none => .bad
      | _ => .bad
    | some (.rol xs) => match y with
      | .int i => match atI xs i with
        | some v => .ok v m
        | none => .bad
      | _ => .bad
    | some (.dct _ kvs) => match (keyOf y).bind (getK kvs) with
      | some v => .ok v m
      | none => .bad
    | _ => .bad
  | _, _ => .bad
/-- a slice -/
def oCut (x : MV) (lo hi : Option Int) (m : Mem) : Res MV := match x with
  | .tup xs => .ok (.tup (cutL xs lo hi)) m
  | .str s => if s.length ≤ LINE then .ok (.str ⟨(cutL s.cps.toList lo hi).toArray⟩) m else .bad
  | .ref n => match m[n]? with
    | some (.lst xs) => new (.lst (cutL xs lo hi)) m
    | some (.rol xs) => new (.lst (cutL xs lo hi)) m
    | _ => .bad
  | _ => .bad
def part (p : Option ME) (fr : Fr) (m : Mem) : Res (Option Int) := match p with
  | none => .ok none m
  | some e => (e fr m).bind fun v m1 => match v with
    | .int i => .ok (some i) m1
    | _ => .bad
def eCut (a : ME) (lo hi : Option ME) : ME := fun fr m => (a fr m).bind fun x m1 => (part lo fr m1).bind fun l m2 => (part hi fr m2).bind fun h m3 => oCut x l h m3
/-- x[::-1] of a list, a tuple -/
def oRev (x : MV) (m : Mem) : Res MV := match x with
  | .tup xs => .ok (.tup xs.reverse) m
  | .ref n => match m[n]? with
    | some (.lst xs) => new (.lst xs.reverse) m
    | _ => .bad
  | _ => .bad
def oLen (x : MV) (m : Mem) : Res MV := match x with
  | .tup xs => .ok (.int xs.length) m
  | .str s => if s.length ≤ LINE then .ok (.int s.length) m else .bad
  | .ref n => match m[n]? with
    | some (.lst xs) => .ok (.int xs.length) m
    | some (.rol xs) => .ok (.int xs.length) m
    | some (.dct _ kvs) => .ok (.int kvs.length) m
    | _ => .bad
  | _ => .bad

/-! ### truth, and, or, not -/
def truth (x : MV) (m : Mem) : Res Bool := match x with
  | .non => .ok false m
  | .bl b => .ok b m
  | .int i => .ok (i != 0) m
  | .str s => if s.length ≤ LINE then .ok (s.length != 0) m else .bad
  | .tup xs => .ok (!xs.isEmpty) m
  | .ref n => match m[n]? with
    | some (.lst xs) => .ok (!xs.isEmpty) m
    | some (.dct _ kvs) => .ok (!kvs.isEmpty) m
    | _ => .bad
  | .exn _ => .bad
def isBl (x : MV) (m : Mem) : Res Bool := match x with
  | .bl b => .ok b m
  | _ => .bad
/-- an expression as a test -/
def tE (a : ME) : MT := fun fr m => (a fr m).bind truth
/-- a comparison as a test -/
def tB (a : ME) : MT := fun fr m => (a fr m).bind isBl
def tAnd (a b : MT) : MT := fun fr m => (a fr m).bind fun x m1 => if x = true then b fr m1 else .ok false m1
def tOr (a b : MT) : MT := fun fr m => (a fr m).bind fun x m1 => if x = true then .ok true m1 else b fr m1
def tNot (a : MT) : MT := fun fr m => (a fr m).bind fun x m1 => .ok (!x) m1
/-- as values: all but the last True or False -/
def eAnd (a b : ME) : ME := fun fr m => (a fr m).bind fun x m1 => match x with
  | .bl true => b fr m1
  | .bl false => .ok (.bl false) m1
  | _ => .bad
def eOr (a b : ME) : ME := fun fr m => (a fr m).bind fun x m1 => match x with
  | .bl false => b fr m1
  | .bl true => .ok (.bl true) m1
  | _ => .bad
def eNot (a : MT) : ME := fun fr m => (a fr m).bind fun x m1 => .ok (.bl (!x)) m1
/-- x or y by truth -/
def eOrT (a b : ME) : ME := fun fr m => (a fr m).bind fun x m1 => (truth x m1).bind fun k m2 => if k = true then .ok x m2 else b fr m2
def eIf (t : MT) (a b : ME) : ME := fun fr m => (t fr m).bind fun x m1 => if x = true then a fr m1 else b fr m1
/-- a < b < c -/
def eChain (f g : MV → MV → Mem → Res MV) (a b c : ME) : ME := fun fr m => (a fr m).bind fun x m1 => (b fr m1).bind fun y m2 => (f x y m2).bind fun r m3 => match r with
  | .bl true => (c fr m3).bind fun z m4 => g y z m4
  | .bl false => .ok (.bl false) m3
  | _ => .bad

/-! ### arguments, displays, calls -/
def aNil : MA := fun _ m => .ok [] m
def aCons (a : ME) (r : MA) : MA := fun fr m => (a fr m).bind fun x m1 => (r fr m1).bind fun xs m2 => .ok (x :: xs) m2
def aL : List ME → MA
  | [] => aNil
  | a :: r => aCons a (aL r)
def eTup (a : MA) : ME := fun fr m => (a fr m).bind fun xs m1 => if xs.length ≤ LINE then .ok (.tup xs) m1 else .bad
def eLst (a : MA) : ME := fun fr m => (a fr m).bind fun xs m1 => if xs.length ≤ LINE then new (.lst xs) m1 else .bad
/-- {k: v, ..}: the dict is made ahead of the pairs -/
def pairs : List (ME × ME) → Fr → Mem → Res (List (Key × MV))
  | [], _, m => .ok [] m
  | (k, v) :: r, fr, m => (k fr m).bind fun x m1 => (v fr m1).bind fun y m2 => (pairs r fr m2).bind fun kvs m3 => match keyOf x with
    | some c => .ok ((c, y) :: kvs) m3
    | none => .bad
def mergeD : List (Key × MV) → List (Key × MV) → List (Key × MV)
  | acc, [] => acc
  | acc, (k, v) :: r => mergeD (setK acc k v) r
def eDct (ps : List (ME × ME)) : ME := fun fr m => (pairs ps fr (m ++ [.dct false []])).bind fun kvs m1 => match m1[m.length]? with
  | some (.dct false []) => .ok (.ref m.length) (m1.set m.length (.dct false (mergeD [] kvs)))
  | _ => .bad
def eDct0 : ME := fun _ m => new (.dct false []) m
def eCall (f : MFn) (a : MA) : ME := fun fr m => (a fr m).bind f
/-- a call of a def with defaults behind the written arguments -/
def eCallD (f : MFn) (dv : List MV) (a : MA) : ME := fun fr m => (a fr m).bind fun xs m1 => f (xs ++ dv) m1
/-- o.f -/
def oFld (C f : Str) (x : MV) (m : Mem) : Res MV := match x with
  | .ref n => match m[n]? with
    | some (.ins D fs) => if D = C then match getF fs f with
        | some v => .ok v m
        | none => .bad
      else .bad
    | _ => .bad
  | _ => .bad
/-- o.m(..) of the class C: the receiver is looked at ahead of the arguments -/
def eMeth (C : Str) (g : Str) (f : MFn) (o : ME) (a : MA) : ME := fun fr m => (o fr m).bind fun x m1 => match x with
  | .ref n => match m1[n]? with
    | some (.ins C' fs) => if C' = C ∧ getF fs g = none then (a fr m1).bind fun xs m2 => f (x :: xs) m2 else .bad
    | _ => .bad
  | _ => .bad
/-- C(..) -/
def eMake (C : Str) (f : MFn) (a : MA) : ME := fun fr m => (a fr m).bind fun xs m1 => (f (.ref m1.length :: xs) (m1 ++ [.ins C []])).bind fun v m2 => match v with
  | .non => .ok (.ref m1.length) m2
  | _ => .bad

/-! ### statements -/
inductive SR where
  | nx (fr : Fr) (m : Mem)
  | rt (v : MV) (m : Mem)
  | bk (fr : Fr) (m : Mem)
  | ct (fr : Fr) (m : Mem)
  | exc (c : Str) (fr : Fr) (m : Mem)
  | bad
abbrev MS := Fr → Mem → SR
/-- a target takes a value -/
abbrev MG := MV → Fr → Mem → SR

def ofRes {α : Type} (r : Res α) (fr : Fr) (f : α → Mem → SR) : SR := match r with
  | .ok a m => f a m
  | .exc c m => .exc c fr m
  | .bad => .bad
@[simp] theorem ofRes_ok {α : Type} (a : α) (m : Mem) (fr : Fr) (f : α → Mem → SR) : ofRes (.ok a m) fr f = f a m := rfl
@[simp] theorem ofRes_exc {α : Type} (c : Str) (m : Mem) (fr : Fr) (f : α → Mem → SR) : ofRes (.exc c m : Res α) fr f = .exc c fr m := rfl
@[simp] theorem ofRes_bad {α : Type} (fr : Fr) (f : α → Mem → SR) : ofRes (.bad : Res α) fr f = .bad := rfl

namespace SR
def andThen (r : SR) (k : Fr → Mem → SR) : SR := match r with
  | .nx fr m => k fr m
  | r => r
@[simp] theorem andThen_nx (fr : Fr) (m : Mem) (k : Fr → Mem → SR) : (SR.nx fr m).andThen k = k fr m := rfl
@[simp] theorem andThen_rt (v : MV) (m : Mem) (k : Fr → Mem → SR) : (SR.rt v m).andThen k = .rt v m := rfl
@[simp] theorem andThen_bk (fr : Fr) (m : Mem) (k : Fr → Mem → SR) : (SR.bk fr m).andThen k = .bk fr m := rfl
@[simp] theorem andThen_ct (fr : Fr) (m : Mem) (k : Fr → Mem → SR) : (SR.ct fr m).andThen k = .ct fr m := rfl
@[simp] theorem andThen_exc (c : Str) (fr : Fr) (m : Mem) (k : Fr → Mem → SR) : (SR.exc c fr m).andThen k = .exc c fr m := rfl
@[simp] theorem andThen_bad (k : Fr → Mem → SR) : SR.bad.andThen k = .bad := rfl
/-- what is wanted of each end -/
structure Post where
  nx : Fr → Mem → Prop
  rt : MV → Mem → Prop
  bk : Fr → Mem → Prop := fun _ _ => False
  ct : Fr → Mem → Prop := fun _ _ => False
  ex : Str → Fr → Mem → Prop := fun _ _ _ => False
def wp (r : SR) (P : Post) : Prop := match r with
  | .nx fr m => P.nx fr m
  | .rt v m => P.rt v m
  | .bk fr m => P.bk fr m
  | .ct fr m => P.ct fr m
  | .exc c fr m => P.ex c fr m
  | .bad => False
@[simp] theorem wp_nx (fr : Fr) (m : Mem) (P : Post) : (SR.nx fr m).wp P = P.nx fr m := rfl
@[simp] theorem wp_rt (v : MV) (m : Mem) (P : Post) : (SR.rt v m).wp P = P.rt v m := rfl
@[simp] theorem wp_bk (fr : Fr) (m : Mem) (P : Post) : (SR.bk fr m).wp P = P.bk fr m := rfl
@[simp] theorem wp_ct (fr : Fr) (m : Mem) (P : Post) : (SR.ct fr m).wp P = P.ct fr m := rfl
@[simp] theorem wp_exc (c : Str) (fr : Fr) (m : Mem) (P : Post) : (SR.exc c fr m).wp P = P.ex c fr m := rfl
@[simp] theorem wp_bad (P : Post) : SR.bad.wp P = False := rfl
theorem wp_andThen (r : SR) (k : Fr → Mem → SR) (P : Post) : (r.andThen k).wp P = r.wp { P with nx := fun fr m => (k fr m).wp P } := by
  cases r <;> rfl
theorem wp_mono {r : SR} {P P' : Post} (h : r.wp P) (h1 : ∀ fr m, P.nx fr m → P'.nx fr m) (h2 : ∀ v m, P.rt v m → P'.rt v m) (h3 : ∀ fr m, P.bk fr m → P'.bk fr m) (h4 : ∀ fr m, P.ct fr m → P'.ct fr m) (h5 : ∀ c fr m, P.ex c fr m → P'.ex c fr m) : r.wp P' := by
  cases r with
  | nx fr m => exact h1 _ _ h
  | rt v m => exact h2 _ _ h
  | bk fr m => exact h3 _ _ h
  | ct fr m => exact h4 _ _ h
  | exc c fr m => exact h5 _ _ _ h
  | bad => exact h
end SR

def sPass : MS := fun fr m => .nx fr m
def sSeq (a b : MS) : MS := fun fr m => (a fr m).andThen b
def sL : List MS → MS
  | [] => sPass
  | [a] => a
  | a :: b :: r => sSeq a (sL (b :: r))
def sRet (a : ME) : MS := fun fr m => ofRes (a fr m) fr fun v m1 => .rt v m1
def sRetN : MS := fun _ m => .rt .non m
def sExpr (a : ME) : MS := fun fr m => ofRes (a fr m) fr fun _ m1 => .nx fr m1
def sIf (t : MT) (a b : MS) : MS := fun fr m => ofRes (t fr m) fr fun x m1 => if x = true then a fr m1 else b fr m1
def sRaise (c : Str) : MS := fun fr m => .exc c fr m
def sBreak : MS := fun fr m => .bk fr m
def sCont : MS := fun fr m => .ct fr m
def gName (i : Nat) : MG := fun v fr m => .nx (fr.set i (some v)) m
def gPair (g h : MG) : MG := fun v fr m => match v with
  | .tup [x, y] => (g x fr m).andThen (h y)
  | _ => .bad
/-- a target of several parts takes a tuple or a list -/
def gAll : List MG → List MV → MS
  | [], [] => sPass
  | g :: gs, v :: vs => fun fr m => (g v fr m).andThen (gAll gs vs)
  | _, _ => fun _ _ => .bad
def gTup (gs : List MG) : MG := fun v fr m => match v with
  | .tup vs => if vs.length = gs.length then gAll gs vs fr m else .bad
  | .ref n => match m[n]? with
    | some (.lst vs) => if vs.length = gs.length then gAll gs vs fr m else .bad
    | _ => .bad
  | _ => .bad
def sAsg (e : ME) (g : MG) : MS := fun fr m => ofRes (e fr m) fr fun v m1 => g v fr m1
def sSet (i : Nat) (e : ME) : MS := fun fr m => ofRes (e fr m) fr fun v m1 => .nx (fr.set i (some v)) m1
/-- a, b = e, f -/
def sPar (i j : Nat) (a b : ME) : MS := fun fr m => ofRes (a fr m) fr fun x m1 => ofRes (b fr m1) fr fun y m2 => .nx ((fr.set i (some x)).set j (some y)) m2
def sPar3 (i j k : Nat) (a b c : ME) : MS := fun fr m => ofRes (a fr m) fr fun x m1 => ofRes (b fr m1) fr fun y m2 => ofRes (c fr m2) fr fun z m3 => .nx (((fr.set i (some x)).set j (some y)).set k (some z)) m3
/-- o[i] = v -/
def putIx (x y v : MV) (m : Mem) : Option Mem := match x with
  | .ref n => match m[n]? with
    | some (.lst xs) => match y with
      | .int i => match atN xs.length i with
        | some j => some (m.set n (.lst (xs.set j v)))
        | none => none
      | _ => none
    | some (.dct false kvs) => match keyOf y with
      | some k => if kvs.length < LINE then some (m.set n (.dct false (setK kvs k v))) else none
      | none => none
    | _ => none
  | _ => none
def gSub (o i : ME) : MG := fun v fr m => ofRes (o fr m) fr fun x m1 => ofRes (i fr m1) fr fun y m2 => match putIx x y v m2 with
  | some m3 => .nx fr m3
  | none => .bad
/-- o.f = v -/
def putFld (C f : Str) (x v : MV) (m : Mem) : Option Mem := match x with
  | .ref n => match m[n]? with
    | some (.ins D fs) => if D = C ∧ fs.length < 900 then some (m.set n (.ins C (setF f v fs))) else none
    | _ => none
  | _ => none
def gFld (C : Str) (o : ME) (f : Str) : MG := fun v fr m => ofRes (o fr m) fr fun x m1 => match putFld C f x v m1 with
  | some m2 => .nx fr m2
  | none => .bad
/-- x += e, x a name -/
def sAug (i : Nat) (e : ME) : MS := fun fr m => match fr[i]? with
  | some (some x) => ofRes (e fr m) fr fun y m1 => match x, y with
    | .int a, .int b => .nx (fr.set i (some (.int (a + b)))) m1
    | _, _ => .bad
  | _ => .bad

/-! ### while -/
def whileN (t : MT) (b : MS) : Nat → MS
  | 0, _, _ => .bad
  | n + 1, fr, m => ofRes (t fr m) fr fun x m1 => if x = true then match b fr m1 with
      | .nx fr' m' => whileN t b n fr' m'
      | .ct fr' m' => whileN t b n fr' m'
      | .bk fr' m' => .nx fr' m'
      | r => r
    else .nx fr m1
theorem whileN_succ (t : MT) (b : MS) (n : Nat) (fr : Fr) (m : Mem) : whileN t b (n + 1) fr m = ofRes (t fr m) fr fun x m1 => if x = true then match b fr m1 with
      | .nx fr' m' => whileN t b n fr' m'
      | .ct fr' m' => whileN t b n fr' m'
      | .bk fr' m' => .nx fr' m'
      | r => r
    else .nx fr m1 := rfl
theorem whileN_mono (t : MT) (b : MS) : ∀ (n : Nat) (fr : Fr) (m : Mem), whileN t b n fr m ≠ .bad → whileN t b (n + 1) fr m = whileN t b n fr m := by
  intro n
  induction n with
  | zero => intro fr m h; exact absurd rfl h
  | succ n ih =>
    intro fr m h
    rw [whileN_succ t b (n + 1), whileN_succ t b n]
    rw [whileN_succ t b n] at h
    cases ht : t fr m with
    | bad => rfl
    | exc c m1 => rfl
    | ok x m1 =>
      rw [ht] at h
      simp only [ofRes_ok] at h ⊢
      by_cases hx : x = true
      · rw [if_pos hx] at h ⊢
        rw [if_pos hx]
        cases hb : b fr m1 with
        | nx fr' m' => rw [hb] at h; exact ih fr' m' h
        | ct fr' m' => rw [hb] at h; exact ih fr' m' h
        | bk fr' m' => rfl
        | rt v m' => rfl
        | exc c fr' m' => rfl
        | bad => rfl
      · rw [if_neg hx, if_neg hx]
theorem whileN_le (t : MT) (b : MS) {n k : Nat} (hk : n ≤ k) {fr : Fr} {m : Mem} (h : whileN t b n fr m ≠ .bad) : whileN t b k fr m = whileN t b n fr m := by
  induction hk with
  | refl => rfl
  | step hk ih => rw [whileN_mono t b _ fr m (by rw [ih]; exact h), ih]
open Classical in
noncomputable def sWhile (t : MT) (b : MS) : MS := fun fr m => if h : ∃ n, whileN t b n fr m ≠ .bad then whileN t b (Classical.choose h) fr m else .bad
theorem sWhile_of {t : MT} {b : MS} {n : Nat} {fr : Fr} {m : Mem} (h : whileN t b n fr m ≠ .bad) : sWhile t b fr m = whileN t b n fr m := by
  have hx : ∃ n, whileN t b n fr m ≠ .bad := ⟨n, h⟩
  unfold sWhile
  rw [dif_pos hx]
  have hc := Classical.choose_spec hx
  by_cases hle : n ≤ Classical.choose hx
  · exact whileN_le t b hle h
  · exact (whileN_le t b (Nat.le_of_lt (Nat.lt_of_not_le hle)) hc).symm
theorem sWhile_inv {t : MT} {b : MS} {fr : Fr} {m : Mem} (h : sWhile t b fr m ≠ .bad) : ∃ n, whileN t b n fr m = sWhile t b fr m := by
  unfold sWhile at h ⊢
  by_cases hx : ∃ n, whileN t b n fr m ≠ .bad
  · rw [dif_pos hx]; exact ⟨_, rfl⟩
  · rw [dif_neg hx] at h; exact absurd rfl h
/-- one turn -/
theorem sWhile_eq (t : MT) (b : MS) (fr : Fr) (m : Mem) : sWhile t b fr m = ofRes (t fr m) fr fun x m1 => if x = true then match b fr m1 with
      | .nx fr' m' => sWhile t b fr' m'
      | .ct fr' m' => sWhile t b fr' m'
      | .bk fr' m' => .nx fr' m'
      | r => r
    else .nx fr m1 := by
  cases ht : t fr m with
  | bad =>
    have : ∀ n, whileN t b n fr m = .bad := fun n => by
      cases n with
      | zero => rfl
      | succ n => rw [whileN_succ, ht]; rfl
    unfold sWhile
    rw [dif_neg (fun ⟨n, hn⟩ => hn (this n))]
    rfl
  | exc c m1 =>
    have e : whileN t b 1 fr m = .exc c fr m1 := by rw [whileN_succ, ht]; rfl
    rw [sWhile_of (n := 1) (by rw [e]; intro z; cases z), e]
    rfl
  | ok x m1 =>
    simp only [ofRes_ok]
    by_cases hx : x = true
    · rw [if_pos hx]
      have step : ∀ n, whileN t b (n + 1) fr m = match b fr m1 with
          | .nx fr' m' => whileN t b n fr' m'
          | .ct fr' m' => whileN t b n fr' m'
          | .bk fr' m' => .nx fr' m'
          | r => r := fun n => by rw [whileN_succ, ht]; simp only [ofRes_ok]; rw [if_pos hx]
      have deep : ∀ fr' m', (∀ n, whileN t b (n + 1) fr m = whileN t b n fr' m') → sWhile t b fr m = sWhile t b fr' m' := fun fr' m' hs => by
        by_cases hq : ∃ n, whileN t b n fr' m' ≠ .bad
        · obtain ⟨n, hn⟩ := hq
          rw [sWhile_of hn, sWhile_of (n := n + 1) (by rw [hs]; exact hn), hs]
        · have h1 : ¬ ∃ n, whileN t b n fr m ≠ .bad := fun ⟨n, hn⟩ => by
            cases n with
            | zero => exact hn rfl
            | succ n => rw [hs] at hn; exact hq ⟨n, hn⟩
          unfold sWhile
          rw [dif_neg h1, dif_neg hq]
      have shallow : ∀ r, r ≠ .bad → (∀ n, whileN t b (n + 1) fr m = r) → sWhile t b fr m = r := fun r hr hs => by
        rw [sWhile_of (n := 1) (by rw [hs 0]; exact hr), hs 0]
      cases hb : b fr m1 with
      | nx fr' m' => exact deep fr' m' fun n => by rw [step n, hb]
      | ct fr' m' => exact deep fr' m' fun n => by rw [step n, hb]
      | bk fr' m' => exact shallow _ (by intro z; cases z) fun n => by rw [step n, hb]
      | rt v m' => exact shallow _ (by intro z; cases z) fun n => by rw [step n, hb]
      | exc c fr' m' => exact shallow _ (by intro z; cases z) fun n => by rw [step n, hb]
      | bad =>
        unfold sWhile
        rw [dif_neg]
        rintro ⟨n, hn⟩
        cases n with
        | zero => exact hn rfl
        | succ n => rw [step n, hb] at hn; exact hn rfl
    · rw [if_neg hx]
      have e : whileN t b 1 fr m = .nx fr m1 := by rw [whileN_succ, ht]; simp only [ofRes_ok]; rw [if_neg hx]
      rw [sWhile_of (n := 1) (by rw [e]; intro z; cases z), e]

/-! ### what is walked -/
/-- the items ahead, what must stay true of the memory meanwhile, the dict that is locked -/
structure Walk where
  items : List MV
  keep : Mem → Prop
  lock : Option Nat := none
abbrev MI := Fr → Mem → Res Walk
def iSeq (a : ME) : MI := fun fr m => (a fr m).bind fun x m1 => match x with
  | .tup xs => .ok ⟨xs, fun _ => True, none⟩ m1
  | .str s => .ok ⟨signs s, fun _ => True, none⟩ m1
  | .ref n => match m1[n]? with
    | some (.lst xs) => .ok ⟨xs, fun m => m[n]? = some (.lst xs), none⟩ m1
    | some (.rol xs) => .ok ⟨xs, fun m => m[n]? = some (.rol xs), none⟩ m1
    | some (.dct _ kvs) => .ok ⟨kvs.map fun kv => ofKey kv.1, fun m => m[n]? = some (.dct true kvs), some n⟩ m1
    | _ => .bad
  | _ => .bad
def iKeys (a : ME) : MI := fun fr m => (a fr m).bind fun x m1 => match x with
  | .ref n => match m1[n]? with
    | some (.dct _ kvs) => .ok ⟨kvs.map fun kv => ofKey kv.1, fun m => m[n]? = some (.dct true kvs), some n⟩ m1
    | _ => .bad
  | _ => .bad
def iVals (a : ME) : MI := fun fr m => (a fr m).bind fun x m1 => match x with
  | .ref n => match m1[n]? with
    | some (.dct _ kvs) => .ok ⟨kvs.map fun kv => kv.2, fun m => m[n]? = some (.dct true kvs), some n⟩ m1
    | _ => .bad
  | _ => .bad
def iItems (a : ME) : MI := fun fr m => (a fr m).bind fun x m1 => match x with
  | .ref n => match m1[n]? with
    | some (.dct _ kvs) => .ok ⟨kvs.map fun kv => .tup [ofKey kv.1, kv.2], fun m => m[n]? = some (.dct true kvs), some n⟩ m1
    | _ => .bad
  | _ => .bad
def rangeL (lo : Int) (n : Nat) : List MV := (List.range n).map fun (i : Nat) => .int (lo + (i : Int))
def iRange1 (a : ME) : MI := fun fr m => (a fr m).bind fun x m1 => match x with
  | .int j => if j < 1000000 ∧ -1000000 < j then .ok ⟨rangeL 0 j.toNat, fun _ => True, none⟩ m1 else .bad
  | _ => .bad
def iRange2 (a b : ME) : MI := fun fr m => (a fr m).bind fun x m1 => (b fr m1).bind fun y m2 => match x, y with
  | .int i, .int j => if (j < 1000000 ∧ -1000000 < j) ∧ i < 1000000 ∧ -1000000 < i then .ok ⟨rangeL i (j - i).toNat, fun _ => True, none⟩ m2 else .bad
  | _, _ => .bad
def enumL (xs : List MV) : Nat → List MV
  | k => match xs with
    | [] => []
    | x :: r => .tup [.int (k : Int), x] :: enumL r (k + 1)
def iEnum (a : ME) : MI := fun fr m => (a fr m).bind fun x m1 => match x with
  | .tup xs => .ok ⟨enumL xs 0, fun _ => True, none⟩ m1
  | .ref n => match m1[n]? with
    | some (.lst xs) => .ok ⟨enumL xs 0, fun m => m[n]? = some (.lst xs), none⟩ m1
    | _ => .bad
  | _ => .bad
open Classical in
noncomputable def forL (keep : Mem → Prop) (g : MG) (b : MS) : List MV → MS
  | [], fr, m => if keep m then .nx fr m else .bad
  | v :: vs, fr, m => if keep m then match (g v fr m).andThen b with
      | .nx fr' m' => forL keep g b vs fr' m'
      | .ct fr' m' => forL keep g b vs fr' m'
      | .bk fr' m' => .nx fr' m'
      | r => r
    else .bad
open Classical in
/-- the dict at n is no longer walked -/
noncomputable def unlk (n : Nat) (kvs : List (Key × MV)) (m : Mem) : Option Mem := if m[n]? = some (.dct true kvs) then some (m.set n (.dct false kvs)) else none
noncomputable def SR.unlk (n : Nat) (kvs : List (Key × MV)) : SR → SR
  | .nx fr m => match MP.unlk n kvs m with
    | some m' => .nx fr m'
    | none => .bad
  | .rt v m => match MP.unlk n kvs m with
    | some m' => .rt v m'
    | none => .bad
  | .bk fr m => match MP.unlk n kvs m with
    | some m' => .bk fr m'
    | none => .bad
  | .ct fr m => match MP.unlk n kvs m with
    | some m' => .ct fr m'
    | none => .bad
  | .exc c fr m => match MP.unlk n kvs m with
    | some m' => .exc c fr m'
    | none => .bad
  | .bad => .bad
noncomputable def sFor (it : MI) (g : MG) (b : MS) : MS := fun fr m => ofRes (it fr m) fr fun w m1 => match w.lock with
  | none => forL w.keep g b w.items fr m1
  | some n => match m1[n]? with
    | some (.dct true _) => forL w.keep g b w.items fr m1
    | some (.dct false kvs) => (forL w.keep g b w.items fr (m1.set n (.dct true kvs))).unlk n kvs
    | _ => .bad

/-! ### comprehensions -/
def wipe (fr : Fr) : List Nat → Fr
  | [] => fr
  | v :: vs => (wipe fr vs).set v none
open Classical in
noncomputable def compL (keep : Mem → Prop) (g : MG) (t : MT) (e : ME) (fr : Fr) (n : Nat) : List MV → List MV → Mem → Res MV
  | [], acc, m => if keep m ∧ m[n]? = some (.lst acc) then .ok (.ref n) m else .bad
  | v :: vs, acc, m => if keep m ∧ m[n]? = some (.lst acc) then match g v fr m with
      | .nx fr' m1 => match t fr' m1 with
        | .ok true m2 => match e fr' m2 with
          | .ok y m3 => if m3[n]? = some (.lst acc) ∧ acc.length < LINE then compL keep g t e fr n vs (acc ++ [y]) (m3.set n (.lst (acc ++ [y]))) else .bad
          | _ => .bad
        | .ok false m2 => compL keep g t e fr n vs acc m2
        | _ => .bad
      | _ => .bad
    else .bad
noncomputable def Res.unlk {α : Type} (n : Nat) (kvs : List (Key × MV)) : Res α → Res α
  | .ok a m => match MP.unlk n kvs m with
    | some m' => .ok a m'
    | none => .bad
  | .exc c m => match MP.unlk n kvs m with
    | some m' => .exc c m'
    | none => .bad
  | .bad => .bad
noncomputable def eComp (own : List Nat) (it : MI) (g : MG) (t : MT) (e : ME) : ME := fun fr m => (it fr m).bind fun w m1 => match w.lock with
  | none => compL w.keep g t e (wipe fr own) m1.length w.items [] (m1 ++ [.lst []])
  | some n => match m1[n]? with
    | some (.dct true _) => compL w.keep g t e (wipe fr own) m1.length w.items [] (m1 ++ [.lst []])
    | some (.dct false kvs) => (compL w.keep g t e (wipe fr own) m1.length w.items [] (m1.set n (.dct true kvs) ++ [.lst []])).unlk n kvs
    | _ => .bad
def tYes : MT := fun _ m => .ok true m

/-! ### defs -/
def fnOf (np nl : Nat) (b : MS) : MFn := fun args m => if args.length = np then match b (args.map some ++ List.replicate nl none) m with
    | .nx _ m' => .ok .non m'
    | .rt v m' => .ok v m'
    | .exc c _ m' => .exc c m'
    | _ => .bad
  else .bad

/-! ### exceptions -/
mutual
/-- no caught exception within -/
def noX : MV → Bool
  | .exn _ => false
  | .tup xs => noXs xs
  | .non => true
  | .bl _ => true
  | .int _ => true
  | .str _ => true
  | .ref _ => true
def noXs : List MV → Bool
  | [] => true
  | x :: xs => noX x && noXs xs
end
def frX : Fr → Bool
  | [] => true
  | none :: r => frX r
  | some v :: r => noX v && frX r
/-- try: b except a class that h tells of: s; the exception's name in slot i -/
def sTry (b : MS) (h : Str → Option Bool) (i : Option Nat) (s : MS) : MS := fun fr m => match b fr m with
  | .exc c fr' m' => match h c with
    | some true => match i with
      | none => match s fr' m' with
        | .exc _ _ _ => .bad
        | r => r
      | some j => match s (fr'.set j (some (.exn c))) m' with
        | .nx fr2 m2 => if frX (fr2.set j none) = true then .nx (fr2.set j none) m2 else .bad
        | .rt v m2 => if noX v = true then .rt v m2 else .bad
        | _ => .bad
    | some false => .exc c fr' m'
    | none => .bad
  | r => r
/-- isinstance(e, C) of a caught exception -/
def oIsExc (h : Str → Option Bool) (x : MV) (m : Mem) : Res MV := match x with
  | .exn c => match h c with
    | some b => .ok (.bl b) m
    | none => .bad
  | _ => .bad

/-! ### built-ins -/
inductive Ty where
  | int | bool | str | tuple | list | dict
  deriving DecidableEq
def isTy (t : Ty) (x : MV) (m : Mem) : Option Bool := match x with
  | .non => some false
  | .bl _ => some (t == .bool || t == .int)
  | .int _ => some (t == .int)
  | .str _ => some (t == .str)
  | .tup _ => some (t == .tuple)
  | .ref n => match m[n]? with
    | some (.lst _) => some (t == .list)
    | some (.dct _ _) => some (t == .dict)
    | _ => none
  | .exn _ => none
def oIsTy (t : Ty) (x : MV) (m : Mem) : Res MV := match isTy t x m with
  | some b => .ok (.bl b) m
  | none => .bad
def allBl : List MV → Option (List Bool)
  | [] => some []
  | .bl b :: r => (allBl r).map (b :: ·)
  | _ :: _ => none
def oAll (x : MV) (m : Mem) : Res MV := match x with
  | .ref n => match m[n]? with
    | some (.lst xs) => match allBl xs with
      | some bs => .ok (.bl (bs.all id)) m
      | none => .bad
    | _ => .bad
  | _ => .bad
def oAny (x : MV) (m : Mem) : Res MV := match x with
  | .ref n => match m[n]? with
    | some (.lst xs) => match allBl xs with
      | some bs => .ok (.bl (bs.any id)) m
      | none => .bad
    | _ => .bad
  | _ => .bad
/-- list(x) -/
def oList (x : MV) (m : Mem) : Res MV := match x with
  | .tup xs => new (.lst xs) m
  | .ref n => match m[n]? with
    | some (.lst xs) => new (.lst xs) m
    | _ => .bad
  | _ => .bad
/-- tuple(x) -/
def oTuple (x : MV) (m : Mem) : Res MV := match x with
  | .tup xs => .ok (.tup xs) m
  | .ref n => match m[n]? with
    | some (.lst xs) => .ok (.tup xs) m
    | _ => .bad
  | _ => .bad
/-- int(b) of a truth -/
def oIntB (x : MV) (m : Mem) : Res MV := match x with
  | .bl b => .ok (.int (if b then 1 else 0)) m
  | .int i => .ok (.int i) m
  | _ => .bad
/-- str(i) -/
def oStrI (x : MV) (m : Mem) : Res MV := match x with
  | .int i => if i.natAbs < STRB then .ok (.str (toString i)) m else .bad
  | _ => .bad
/-- xs.append(v) -/
def eAppend (o v : ME) : ME := fun fr m => (o fr m).bind fun x m1 => match x with
  | .ref n => match m1[n]? with
    | some (.lst _) => (v fr m1).bind fun y m2 => match m2[n]? with
      | some (.lst ys) => if ys.length < LINE then .ok .non (m2.set n (.lst (ys ++ [y]))) else .bad
      | _ => .bad
    | _ => .bad
  | _ => .bad
end MP

/-! MPx: MP's further combinators: dict(x), list(x), tuple(x), sorted(x), d.get(k, x), s.join(xs). -/
namespace MP
open PySem
/-- d.get(k, x) -/
def eGet2 (o k d : ME) : ME := fun fr m => (o fr m).bind fun x m1 => match x with
  | .ref n => match m1[n]? with
    | some (.dct _ _) => (k fr m1).bind fun y m2 => (d fr m2).bind fun z m3 => match m3[n]?, keyOf y with
      | some (.dct _ kvs), some c => .ok ((getK kvs c).getD z) m3
      | _, _ => .bad
    | _ => .bad
  | _ => .bad
abbrev eGet1 (o k : ME) : ME := eGet2 o k (eC .non)
def strsOf : List MV → Option (List Str)
  | [] => some []
  | .str s :: r => (strsOf r).map (s :: ·)
  | _ :: _ => none
/-- a list's or a tuple's items -/
def seqOf (x : MV) (m : Mem) : Option (List MV) := match x with
  | .tup xs => some xs
  | .ref n => match m[n]? with
    | some (.lst xs) => some xs
    | _ => none
  | _ => none
/-- s.join(xs) -/
def oJoin (x y : MV) (m : Mem) : Res MV := match x, (seqOf y m).bind strsOf with
  | .str a, some ys => if (ys.map (·.length)).sum + ys.length * a.length ≤ LINE then .ok (.str (Str.join a ys)) m else .bad
  | _, _ => .bad
/-- the receiver is looked at ahead of the argument -/
def eJoin (s e : ME) : ME := fun fr m => (s fr m).bind fun x m1 => match x with
  | .str _ => (e fr m1).bind fun y m2 => oJoin x y m2
  | _ => .bad
def pairsOf : List MV → Option (List (Key × MV))
  | [] => some []
  | .tup [k, v] :: r => match keyOf k, pairsOf r with
    | some c, some q => some ((c, v) :: q)
    | _, _ => none
  | _ :: _ => none
/-- dict(x) -/
def oDict (x : MV) (m : Mem) : Res MV := match x with
  | .ref n => match m[n]? with
    | some (.lst xs) => match pairsOf xs with
      | some q => new (.dct false (mergeD [] q)) m
      | none => .bad
    | some (.dct _ kvs) => new (.dct false kvs) m
    | _ => .bad
  | .tup xs => match pairsOf xs with
    | some q => new (.dct false (mergeD [] q)) m
    | none => .bad
  | _ => .bad
/-- list(x) -/
def oListOf (x : MV) (m : Mem) : Res MV := match x with
  | .tup xs => new (.lst xs) m
  | .ref n => match m[n]? with
    | some (.lst xs) => new (.lst xs) m
    | some (.dct _ kvs) => new (.lst (kvs.map fun kv => ofKey kv.1)) m
    | _ => .bad
  | _ => .bad
/-- tuple(x) -/
def oTupOf (x : MV) (m : Mem) : Res MV := match x with
  | .tup xs => .ok (.tup xs) m
  | .ref n => match m[n]? with
    | some (.lst xs) => .ok (.tup xs) m
    | _ => .bad
  | _ => .bad
/-- list(d.items()) -/
def oListItems (x : MV) (m : Mem) : Res MV := match x with
  | .ref n => match m[n]? with
    | some (.dct false kvs) => new (.lst (kvs.map fun kv => .tup [ofKey kv.1, kv.2])) m
    | _ => .bad
  | _ => .bad
/-! sorted: texts -/
def leS (a b : Str) : Bool := !decide (b.cps.toList < a.cps.toList)
def insS (x : Str) : List Str → List Str
  | [] => [x]
  | y :: r => if leS x y = true then x :: y :: r else y :: insS x r
def sortS : List Str → List Str
  | [] => []
  | x :: r => insS x (sortS r)
def keysS : List (Key × MV) → Option (List Str)
  | [] => some []
  | (.inr s, _) :: r => (keysS r).map (s :: ·)
  | (.inl _, _) :: _ => none
/-- sorted(x): texts, fewer than 64 -/
def oSorted (x : MV) (m : Mem) : Res MV := match x with
  | .ref n => match m[n]? with
    | some (.dct _ kvs) => match keysS kvs with
      | some ks => if ks.length < 64 then new (.lst ((sortS ks).map .str)) m else .bad
      | none => .bad
    | some (.lst xs) => match strsOf xs with
      | some ks => if ks.length < 64 then new (.lst ((sortS ks).map .str)) m else .bad
      | none => .bad
    | _ => .bad
  | _ => .bad

/-! insertion sort: what it gives, and that nothing else does -/
theorem leS_total (a b : Str) : leS a b = true ∨ leS b a = true := by
  unfold leS
  simp only [Bool.not_eq_true', decide_eq_false_iff_not]
  by_cases h : b.cps.toList < a.cps.toList
  · exact .inr (List.lt_asymm h)
  · exact .inl h
theorem leS_trans {a b c : Str} (h1 : leS a b = true) (h2 : leS b c = true) : leS a c = true := by
  unfold leS at *
  simp only [Bool.not_eq_true', decide_eq_false_iff_not] at *
  exact List.le_trans h1 h2
theorem leS_antisymm {a b : Str} (h1 : leS a b = true) (h2 : leS b a = true) : a = b := by
  unfold leS at *
  simp only [Bool.not_eq_true', decide_eq_false_iff_not] at *
  have : a.cps.toList = b.cps.toList := List.le_antisymm h1 h2
  cases a; cases b
  simp only [Str.mk.injEq]
  exact Array.toList_inj.mp this
theorem insS_perm (x : Str) : ∀ l, (insS x l).Perm (x :: l)
  | [] => .refl _
  | y :: r => by
    unfold insS
    split
    · exact .refl _
    · exact ((insS_perm x r).cons y).trans (.swap x y r)
theorem sortS_perm : ∀ l, (sortS l).Perm l
  | [] => .refl _
  | x :: r => (insS_perm x (sortS r)).trans ((sortS_perm r).cons x)
theorem insS_pw (x : Str) : ∀ {l}, l.Pairwise (fun a b => leS a b = true) → (insS x l).Pairwise (fun a b => leS a b = true)
  | [], _ => List.pairwise_singleton _ _
  | y :: r, h => by
    unfold insS
    have ⟨h1, h2⟩ := List.pairwise_cons.mp h
    split
    · rename_i e
      refine List.pairwise_cons.mpr ⟨fun z hz => ?_, h⟩
      rcases List.mem_cons.mp hz with rfl | hz
      · exact e
      · exact leS_trans e (h1 z hz)
    · rename_i e
      refine List.pairwise_cons.mpr ⟨fun z hz => ?_, insS_pw x h2⟩
      rcases List.mem_cons.mp ((insS_perm x r).mem_iff.mp hz) with rfl | hz
      · exact (leS_total y z).resolve_right e
      · exact h1 z hz
theorem sortS_pw : ∀ l, (sortS l).Pairwise (fun a b => leS a b = true)
  | [] => List.Pairwise.nil
  | x :: r => insS_pw x (sortS_pw r)
theorem sort_unique : ∀ {l k : List Str}, l.Perm k → l.Pairwise (fun a b => leS a b = true) → k.Pairwise (fun a b => leS a b = true) → l = k
  | [], k, p, _, _ => (List.Perm.nil_eq p)
  | x :: r, k, p, h1, h2 => by
    cases k with
    | nil => exact absurd p.length_eq (by simp)
    | cons y t =>
      have ⟨a1, a2⟩ := List.pairwise_cons.mp h1
      have ⟨b1, b2⟩ := List.pairwise_cons.mp h2
      have e : x = y := by
        have hx : x ∈ y :: t := p.mem_iff.mp List.mem_cons_self
        have hy : y ∈ x :: r := p.mem_iff.mpr List.mem_cons_self
        rcases List.mem_cons.mp hx with e | hx
        · exact e
        · rcases List.mem_cons.mp hy with e | hy
          · exact e.symm
          · exact leS_antisymm (a1 y hy) (b1 x hx)
      subst e
      rw [sort_unique p.cons_inv a2 b2]
theorem sortS_of {l k : List Str} (p : k.Perm l) (h : k.Pairwise (fun a b => leS a b = true)) : k = sortS l := sort_unique (p.trans (sortS_perm l).symm) h (sortS_pw l)
end MP
namespace MP
open PySem
/-- x.pop(i): a list's, a dict's -/
def ePop1 (o e : ME) : ME := fun fr m => (o fr m).bind fun x m1 => match x with
  | .ref n => match m1[n]? with
    | some (.lst _) => (e fr m1).bind fun y m2 => match y, m2[n]? with
      | .int i, some (.lst xs) => match atN xs.length i with
        | some k => match xs[k]? with
          | some v => if -(2 ^ 63) ≤ i ∧ i < 2 ^ 63 then .ok v (m2.set n (.lst (xs.eraseIdx k))) else .bad
          | none => .bad
        | none => .bad
      | _, _ => .bad
    | some (.dct _ _) => (e fr m1).bind fun y m2 => match keyOf y, m2[n]? with
      | some c, some (.dct false kvs) => match getK kvs c with
        | some v => .ok v (m2.set n (.dct false (delK kvs c)))
        | none => .bad
      | _, _ => .bad
    | _ => .bad
  | _ => .bad
/-- xs.pop() -/
def ePop0 (o : ME) : ME := fun fr m => (o fr m).bind fun x m1 => match x with
  | .ref n => match m1[n]? with
    | some (.lst xs) => match xs[xs.length - 1]? with
      | some v => .ok v (m1.set n (.lst xs.dropLast))
      | none => .bad
    | _ => .bad
  | _ => .bad
/-- x.clear(): a list's, a dict's -/
def eClear (o : ME) : ME := fun fr m => (o fr m).bind fun x m1 => match x with
  | .ref n => match m1[n]? with
    | some (.lst _) => .ok .non (m1.set n (.lst []))
    | some (.dct false _) => .ok .non (m1.set n (.dct false []))
    | _ => .bad
  | _ => .bad
/-- d.pop(k, x) -/
def ePop2 (o k d : ME) : ME := fun fr m => (o fr m).bind fun x m1 => match x with
  | .ref n => match m1[n]? with
    | some (.dct _ _) => (k fr m1).bind fun y m2 => (d fr m2).bind fun z m3 => match keyOf y, m3[n]? with
      | some c, some (.dct false kvs) => match getK kvs c with
        | some v => .ok v (m3.set n (.dct false (delK kvs c)))
        | none => .ok z m3
      | _, _ => .bad
    | _ => .bad
  | _ => .bad
/-- xs[::-1] of a list -/
def oRevL (x : MV) (m : Mem) : Res MV := match x with
  | .ref n => match m[n]? with
    | some (.lst xs) => new (.lst xs.reverse) m
    | _ => .bad
  | _ => .bad
/-- xs.extend(ys) -/
def eExtend (o e : ME) : ME := fun fr m => (o fr m).bind fun x m1 => match x with
  | .ref n => match m1[n]? with
    | some (.lst _) => (e fr m1).bind fun y m2 => match y with
      | .ref k => match m2[n]?, m2[k]? with
        | some (.lst xs), some (.lst ys) => if xs.length + ys.length ≤ LINE then .ok .non (m2.set n (.lst (xs ++ ys))) else .bad
        | _, _ => .bad
      | _ => .bad
    | _ => .bad
  | _ => .bad
/-- max(a, b), min(a, b) -/
def oMax (x y : MV) (m : Mem) : Res MV := match x, y with
  | .int i, .int j => .ok (.int (if j > i then j else i)) m
  | _, _ => .bad
def oMin (x y : MV) (m : Mem) : Res MV := match x, y with
  | .int i, .int j => .ok (.int (if j < i then j else i)) m
  | _, _ => .bad
end MP

/-! MPz: sorted of tuples that begin with texts, of ints; list(d.values()), sorted(d.items()). -/
namespace MP
open PySem
def headOf : MV → Str
  | .tup (.str s :: _) => s
  | _ => Str.empty
def heads : List MV → Option (List Str)
  | [] => some []
  | .tup (.str s :: _) :: r => (heads r).map (s :: ·)
  | _ => none
def leT (a b : MV) : Bool := leS (headOf a) (headOf b)
def sortT (xs : List MV) : List MV := xs.mergeSort leT
def leI (a b : Int) : Bool := decide (a ≤ b)
def sortI (xs : List Int) : List Int := xs.mergeSort leI
def keysI : List (Key × MV) → Option (List Int)
  | [] => some []
  | (.inl i, _) :: r => (keysI r).map (i :: ·)
  | _ => none
/-- sorted(x) of texts, of ints, of tuples that begin with unlike texts -/
def oSortAny (x : MV) (m : Mem) : Res MV := match x with
  | .ref n => match m[n]? with
    | some (.dct _ kvs) => match keysS kvs with
      | some ks => if ks.length < 64 then new (.lst ((sortS ks).map .str)) m else .bad
      | none => match keysI kvs with
        | some ks => if ks.length < 64 then new (.lst ((sortI ks).map .int)) m else .bad
        | none => .bad
    | some (.lst xs) => match strsOf xs with
      | some ks => if ks.length < 64 then new (.lst ((sortS ks).map .str)) m else .bad
      | none => match heads xs with
        | some ks => if ks.Nodup then new (.lst (sortT xs)) m else .bad
        | none => .bad
    | _ => .bad
  | _ => .bad
/-- sorted(d.items()) -/
def oSortItems (x : MV) (m : Mem) : Res MV := match x with
  | .ref n => match m[n]? with
    | some (.dct false kvs) => match keysS kvs with
      | some ks => if ks.Nodup ∧ ks.length < 1000000 then new (.lst (sortT (kvs.map fun kv => .tup [ofKey kv.1, kv.2]))) m else .bad
      | none => .bad
    | _ => .bad
  | _ => .bad
/-- list(d.values()) -/
def oListVals (x : MV) (m : Mem) : Res MV := match x with
  | .ref n => match m[n]? with
    | some (.dct false kvs) => new (.lst (kvs.map fun kv => kv.2)) m
    | _ => .bad
  | _ => .bad
/-- zip(a, b) of two lists; the first one's items are no tuples -/
def notT : MV → Bool
  | .tup _ => false
  | _ => true
def zipM (xs ys : List MV) : List MV := (xs.zip ys).map fun p => .tup [p.1, p.2]
def iZip (a b : ME) : MI := fun fr m => (a fr m).bind fun x m1 => (b fr m1).bind fun y m2 => match x, y with
  | .ref n, .ref k => match m2[n]?, m2[k]? with
    | some (.lst xs), some (.lst ys) => if xs.all notT = true then .ok ⟨zipM xs ys, fun m => m[n]? = some (.lst xs) ∧ m[k]? = some (.lst ys), none⟩ m2 else .bad
    | _, _ => .bad
  | _, _ => .bad
theorem leT_total (a b : MV) : (leT a b || leT b a) = true := by
  unfold leT
  rcases leS_total (headOf a) (headOf b) with h | h <;> simp [h]
theorem leT_trans (a b c : MV) (h1 : leT a b = true) (h2 : leT b c = true) : leT a c = true := leS_trans h1 h2
theorem sortT_perm (xs : List MV) : (sortT xs).Perm xs := List.mergeSort_perm _ _
theorem sortT_pw (xs : List MV) : (sortT xs).Pairwise (fun a b => leT a b = true) := List.pairwise_mergeSort leT_trans leT_total xs
theorem sortI_perm (xs : List Int) : (sortI xs).Perm xs := List.mergeSort_perm _ _
theorem sortI_pw (xs : List Int) : (sortI xs).Pairwise (· ≤ ·) := by
  have h := List.pairwise_mergeSort (le := leI) (fun a b c h1 h2 => by unfold leI at *; simp only [decide_eq_true_eq] at *; omega) (fun a b => by unfold leI; by_cases h : a ≤ b <;> simp [h]; omega) xs
  exact h.imp fun h => by unfold leI at h; simpa using h
theorem perm_sorted {α : Type} {r : α → α → Prop} : ∀ {l m : List α}, l.Perm m → l.Pairwise r → m.Pairwise r → (∀ a ∈ l, ∀ b ∈ l, r a b → r b a → a = b) → l = m
  | [], m, p, _, _, _ => (List.Perm.eq_nil p.symm).symm
  | x :: l, [], p, _, _, _ => absurd p.length_eq (by simp)
  | x :: l, y :: m, p, h1, h2, h => by
    have e : x = y := by
      have hx : x ∈ y :: m := p.mem_iff.mp List.mem_cons_self
      have hy : y ∈ x :: l := p.mem_iff.mpr List.mem_cons_self
      rcases List.mem_cons.mp hx with e | hx
      · exact e
      · rcases List.mem_cons.mp hy with e | hy
        · exact e.symm
        · exact h x List.mem_cons_self y (List.mem_cons_of_mem _ hy) ((List.pairwise_cons.mp h1).1 y hy) ((List.pairwise_cons.mp h2).1 x hx)
    subst e
    rw [perm_sorted p.cons_inv (List.pairwise_cons.mp h1).2 (List.pairwise_cons.mp h2).2 fun a ha b hb => h a (List.mem_cons_of_mem _ ha) b (List.mem_cons_of_mem _ hb)]
theorem sortI_is {l k : List Int} (p : k.Perm l) (h : k.Pairwise (· ≤ ·)) : k = sortI l := perm_sorted (p.trans (sortI_perm l).symm) h (sortI_pw l) fun a _ b _ h1 h2 => Int.le_antisymm h1 h2
theorem heads_map : ∀ {xs : List MV} {ks : List Str}, heads xs = some ks → ks = xs.map headOf ∧ ∀ x ∈ xs, ∃ s r, x = .tup (.str s :: r)
  | [], ks, h => by cases h; exact ⟨rfl, fun _ h => nomatch h⟩
  | x :: xs, ks, h => by
    cases x with
    | tup ys =>
      cases ys with
      | nil => cases h
      | cons y ys =>
        cases y with
        | str s =>
          have h' : (heads xs).map (s :: ·) = some ks := h
          cases e : heads xs with
          | none => rw [e] at h'; cases h'
          | some ks' =>
            rw [e] at h'; cases h'
            obtain ⟨h1, h2⟩ := heads_map e
            exact ⟨by rw [h1]; rfl, fun x hx => by
              rcases List.mem_cons.mp hx with rfl | hx
              · exact ⟨_, _, rfl⟩
              · exact h2 x hx⟩
        | _ => cases h
    | _ => cases h
theorem map_inj_on {α β : Type} {f : α → β} : ∀ {l : List α}, (l.map f).Nodup → ∀ a ∈ l, ∀ b ∈ l, f a = f b → a = b
  | [], _, a, ha, _, _, _ => nomatch ha
  | x :: l, h, a, ha, b, hb, e => by
    rw [List.map_cons, List.nodup_cons] at h
    rcases List.mem_cons.mp ha with ea | ha'
    · rcases List.mem_cons.mp hb with eb | hb'
      · rw [ea, eb]
      · rw [ea] at e
        exact absurd (List.mem_map.mpr ⟨b, hb', e.symm⟩) h.1
    · rcases List.mem_cons.mp hb with eb | hb'
      · rw [eb] at e
        exact absurd (List.mem_map.mpr ⟨a, ha', e⟩) h.1
      · exact map_inj_on h.2 a ha' b hb' e
theorem sortT_is {l k : List MV} (n : (l.map headOf).Nodup) (p : k.Perm l) (h : k.Pairwise (fun a b => leT a b = true)) : k = sortT l := by
  refine perm_sorted (p.trans (sortT_perm l).symm) h (sortT_pw l) fun a ha b hb h1 h2 => ?_
  exact map_inj_on n a (p.mem_iff.mp ha) b (p.mem_iff.mp hb) (leS_antisymm h1 h2)
/-! with an exception in hand -/
def strip1 : Option MV → Option MV
  | some v => if noX v then some v else none
  | none => none
def strip (fr : Fr) : Fr := fr.map strip1
/-- what doesn't look at the exception -/
def eHide (a : ME) : ME := fun fr m => a (strip fr) m
def tHide (a : MT) : MT := fun fr m => a (strip fr) m
/-- a list of things that aren't exceptions -/
def eLstX (a : MA) : ME := fun fr m => (a fr m).bind fun xs m1 => if noXs xs = true ∧ xs.length ≤ LINE then new (.lst xs) m1 else .bad
/-- isinstance(e, (C, ..)) -/
def anyX (c : Str) : List (Str → Option Bool) → Option Bool
  | [] => some false
  | h :: hs => match h c with
    | some true => some true
    | some false => anyX c hs
    | none => none
def oIsExcs (hs : List (Str → Option Bool)) (x : MV) (m : Mem) : Res MV := match x with
  | .exn c => match anyX c hs with
    | some b => .ok (.bl b) m
    | none => .bad
  | _ => .bad
/-- xs.count(b), xs truths -/
def bls : List MV → Option (List Bool)
  | [] => some []
  | .bl b :: r => (bls r).map (b :: ·)
  | _ => none
def eCount (o e : ME) : ME := fun fr m => (o fr m).bind fun x m1 => match x with
  | .ref n => match m1[n]? with
    | some (.lst _) => (e fr m1).bind fun y m2 => match y with
      | .bl k => match m2[n]? with
        | some (.lst xs) => match bls xs with
          | some bs => .ok (.int ((bs.count k : Nat) : Int)) m2
          | none => .bad
        | _ => .bad
      | _ => .bad
    | _ => .bad
  | _ => .bad
/-- xs.index(y), xs flat things, y among them -/
def eIndex (o e : ME) : ME := fun fr m => (o fr m).bind fun x m1 => match x with
  | .ref n => match m1[n]? with
    | some (.lst _) => (e fr m1).bind fun y m2 => match m2[n]? with
      | some (.lst xs) => if flat y = true ∧ xs.all flat = true then match xs.findIdx? (fun z => eqFl z y) with
          | some j => .ok (.int (j : Int)) m2
          | none => .bad
        else .bad
      | _ => .bad
    | _ => .bad
  | _ => .bad
/-- f(..) that raises nothing -/
def Res.calm {α : Type} : Res α → Res α
  | .ok v m => .ok v m
  | _ => .bad
def eCallN (f : MFn) (a : MA) : ME := fun fr m => (a fr m).bind fun xs m1 => (f xs m1).calm
theorem wp_calm {α : Type} {r : Res α} {Q : α → Mem → Prop} {E : Str → Mem → Prop} : (Res.calm r).wp Q E ↔ r.wp Q (fun _ _ => False) := by
  cases r <;> exact Iff.rfl
/-- d[z], d a dict of the module with text keys -/
def oTab (kvs : List (Str × MV)) (y : MV) (m : Mem) : Res MV := match y with
  | .str z => match kvs.lookup z with
    | some v => .ok v m
    | none => .bad
  | _ => .bad
end MP

/-! MPq: raise C(e); f-strings. -/
namespace MP
open PySem
/-- raise C(e) -/
def sRaiseE (c : Str) (e : ME) : MS := fun fr m => ofRes (e fr m) fr fun _ m1 => .exc c fr m1
/-- {x} of an f-string -/
def oFmt (x : MV) (m : Mem) : Res MV := match x with
  | .str y => if y.length ≤ LINE then .ok (.str y) m else .bad
  | .int i => oStrI (.int i) m
  | _ => .bad
/-- the parts of an f-string, one behind the other -/
def js : List ME → Str → Fr → Mem → Res Str
  | [], acc, _, m => .ok acc m
  | p :: ps, acc, fr, m => (p fr m).bind fun x m1 => match x with
    | .str y => if (acc ++ y).length ≤ LINE then js ps (acc ++ y) fr m1 else .bad
    | _ => .bad
def eFs (ps : List ME) : ME := fun fr m => (js ps Str.empty fr m).bind fun out m1 => .ok (.str out) m1
end MP

/-! MPw: what must hold ahead of each combinator. -/
namespace MP
open PySem
section
variable {fr : Fr} {m : Mem} {Q : MV → Mem → Prop} {QL : List MV → Mem → Prop} {QB : Bool → Mem → Prop} {E : Str → Mem → Prop} {P : SR.Post}
@[simp] theorem var_zero {v : MV} : eVar 0 (some v :: fr) m = .ok v m := rfl
@[simp] theorem var_succ {i : Nat} {x : Option MV} : eVar (i + 1) (x :: fr) m = eVar i fr m := rfl
@[simp] theorem run_int {i : Int} : eInt i fr m = .ok (.int i) m := rfl
@[simp] theorem run_str {i : Str} : eStr i fr m = .ok (.str i) m := rfl
@[simp] theorem run_c {v : MV} : eC v fr m = .ok v m := rfl
@[simp] theorem w_e1 {f : MV → Mem → Res MV} {a : ME} : (e1 f a fr m).wp Q E = (a fr m).wp (fun x m1 => (f x m1).wp Q E) E := Res.wp_bind _ _ _ _
@[simp] theorem w_e2 {f : MV → MV → Mem → Res MV} {a b : ME} : (e2 f a b fr m).wp Q E = (a fr m).wp (fun x m1 => (b fr m1).wp (fun y m2 => (f x y m2).wp Q E) E) E := by
  unfold e2
  rw [Res.wp_bind]
  congr 1
  funext x m1
  rw [Res.wp_bind]
@[simp] theorem w_aL0 : (aL [] fr m).wp QL E = QL [] m := rfl
@[simp] theorem w_aL1 {a : ME} {r : List ME} : (aL (a :: r) fr m).wp QL E = (a fr m).wp (fun x m1 => (aL r fr m1).wp (fun xs m2 => QL (x :: xs) m2) E) E := by
  show ((a fr m).bind fun x m1 => (aL r fr m1).bind fun xs m2 => .ok (x :: xs) m2).wp QL E = _
  rw [Res.wp_bind]
  congr 1
  funext x m1
  rw [Res.wp_bind]
  rfl
@[simp] theorem w_call {f : MFn} {a : MA} : (eCall f a fr m).wp Q E = (a fr m).wp (fun xs m1 => (f xs m1).wp Q E) E := Res.wp_bind _ _ _ _
@[simp] theorem w_tup {a : MA} : (eTup a fr m).wp Q E = (a fr m).wp (fun xs m1 => xs.length ≤ LINE ∧ Q (.tup xs) m1) E := by
  unfold eTup
  rw [Res.wp_bind]
  congr 1
  funext xs m1
  by_cases h : xs.length ≤ LINE
  · simp [h]
  · simp [h]
@[simp] theorem w_lst {a : MA} : (eLst a fr m).wp Q E = (a fr m).wp (fun xs m1 => xs.length ≤ LINE ∧ Q (.ref m1.length) (m1 ++ [.lst xs])) E := by
  unfold eLst
  rw [Res.wp_bind]
  congr 1
  funext xs m1
  by_cases h : xs.length ≤ LINE
  · simp [h, new]
  · simp [h]
@[simp] theorem w_dct0 : (eDct0 fr m).wp Q E = Q (.ref m.length) (m ++ [.dct false []]) := rfl
@[simp] theorem w_tE {a : ME} : (tE a fr m).wp QB E = (a fr m).wp (fun x m1 => (truth x m1).wp QB E) E := Res.wp_bind _ _ _ _
@[simp] theorem w_tB {a : ME} : (tB a fr m).wp QB E = (a fr m).wp (fun x m1 => (isBl x m1).wp QB E) E := Res.wp_bind _ _ _ _
@[simp] theorem w_tAnd {a b : MT} : (tAnd a b fr m).wp QB E = (a fr m).wp (fun x m1 => if x = true then (b fr m1).wp QB E else QB false m1) E := by
  unfold tAnd
  rw [Res.wp_bind]
  congr 1
  funext x m1
  cases x <;> rfl
@[simp] theorem w_tOr {a b : MT} : (tOr a b fr m).wp QB E = (a fr m).wp (fun x m1 => if x = true then QB true m1 else (b fr m1).wp QB E) E := by
  unfold tOr
  rw [Res.wp_bind]
  congr 1
  funext x m1
  cases x <;> rfl
@[simp] theorem w_tNot {a : MT} : (tNot a fr m).wp QB E = (a fr m).wp (fun x m1 => QB (!x) m1) E := Res.wp_bind _ _ _ _
@[simp] theorem w_eNot {a : MT} : (eNot a fr m).wp Q E = (a fr m).wp (fun x m1 => Q (.bl (!x)) m1) E := Res.wp_bind _ _ _ _
@[simp] theorem w_eIf {t : MT} {a b : ME} : (eIf t a b fr m).wp Q E = (t fr m).wp (fun x m1 => if x = true then (a fr m1).wp Q E else (b fr m1).wp Q E) E := by
  unfold eIf
  rw [Res.wp_bind]
  congr 1
  funext x m1
  cases x <;> rfl
@[simp] theorem w_eAnd {a b : ME} : (eAnd a b fr m).wp Q E = (a fr m).wp (fun x m1 => match x with
    | .bl true => (b fr m1).wp Q E
    | .bl false => Q (.bl false) m1
    | _ => False) E := by
  unfold eAnd
  rw [Res.wp_bind]
  congr 1
  funext x m1
  cases x with
  | bl k => cases k <;> rfl
  | _ => rfl
@[simp] theorem w_eOr {a b : ME} : (eOr a b fr m).wp Q E = (a fr m).wp (fun x m1 => match x with
    | .bl false => (b fr m1).wp Q E
    | .bl true => Q (.bl true) m1
    | _ => False) E := by
  unfold eOr
  rw [Res.wp_bind]
  congr 1
  funext x m1
  cases x with
  | bl k => cases k <;> rfl
  | _ => rfl
theorem if_bl {p : Bool} {A : Prop} {B : Prop} : (match (MV.bl p) with
    | .bl true => A
    | .bl false => B
    | _ => False) = (if p = true then A else B) := by cases p <;> rfl
theorem if_bl' {p : Bool} {A : Prop} {B : Prop} : (match (MV.bl p) with
    | .bl false => A
    | .bl true => B
    | _ => False) = (if p = true then B else A) := by cases p <;> rfl
/-! statements -/
@[simp] theorem w_ofRes {α : Type} {r : Res α} {f : α → Mem → SR} : (ofRes r fr f).wp P = r.wp (fun a m => (f a m).wp P) (fun c m => P.ex c fr m) := by cases r <;> rfl
@[simp] theorem w_pass : (sPass fr m).wp P = P.nx fr m := rfl
@[simp] theorem w_seq {a b : MS} : (sSeq a b fr m).wp P = (a fr m).wp { P with nx := fun fr m => (b fr m).wp P } := SR.wp_andThen _ _ _
@[simp] theorem w_set {i : Nat} {e : ME} : (sSet i e fr m).wp P = (e fr m).wp (fun v m1 => P.nx (fr.set i (some v)) m1) (fun c m => P.ex c fr m) := w_ofRes
@[simp] theorem w_par {i j : Nat} {a b : ME} : (sPar i j a b fr m).wp P = (a fr m).wp (fun x m1 => (b fr m1).wp (fun y m2 => P.nx ((fr.set i (some x)).set j (some y)) m2) (fun c m => P.ex c fr m)) (fun c m => P.ex c fr m) := by
  unfold sPar
  rw [w_ofRes]
  congr 1
  funext x m1
  rw [w_ofRes]
  rfl
@[simp] theorem w_asg {e : ME} {g : MG} : (sAsg e g fr m).wp P = (e fr m).wp (fun v m1 => (g v fr m1).wp P) (fun c m => P.ex c fr m) := w_ofRes
@[simp] theorem w_gName {i : Nat} {v : MV} : (gName i v fr m).wp P = P.nx (fr.set i (some v)) m := rfl
@[simp] theorem w_gSub {o i : ME} {v : MV} : (gSub o i v fr m).wp P = (o fr m).wp (fun x m1 => (i fr m1).wp (fun y m2 => match putIx x y v m2 with
    | some m3 => P.nx fr m3
    | none => False) (fun c m => P.ex c fr m)) (fun c m => P.ex c fr m) := by
  unfold gSub
  rw [w_ofRes]
  congr 1
  funext x m1
  rw [w_ofRes]
  congr 1
  funext y m2
  cases putIx x y v m2 <;> rfl
@[simp] theorem w_ret {a : ME} : (sRet a fr m).wp P = (a fr m).wp P.rt (fun c m => P.ex c fr m) := w_ofRes
@[simp] theorem w_expr {a : ME} : (sExpr a fr m).wp P = (a fr m).wp (fun _ m1 => P.nx fr m1) (fun c m => P.ex c fr m) := w_ofRes
@[simp] theorem w_if {t : MT} {a b : MS} : (sIf t a b fr m).wp P = (t fr m).wp (fun x m1 => if x = true then (a fr m1).wp P else (b fr m1).wp P) (fun c m => P.ex c fr m) := by
  unfold sIf
  rw [w_ofRes]
  congr 1
  funext x m1
  cases x <;> rfl
@[simp] theorem w_raise {c : Str} : (sRaise c fr m).wp P = P.ex c fr m := rfl
theorem w_aug {i : Nat} {e : ME} {a : Int} (h : fr[i]? = some (some (.int a))) : (sAug i e fr m).wp P = (e fr m).wp (fun y m1 => match y with
    | .int b => P.nx (fr.set i (some (.int (a + b)))) m1
    | _ => False) (fun c m => P.ex c fr m) := by
  unfold sAug
  simp only [h]
  rw [w_ofRes]
  congr 1
  funext y m1
  cases y <;> rfl
theorem w_while {t : MT} {b : MS} : (sWhile t b fr m).wp P = (t fr m).wp (fun x m1 => if x = true then (b fr m1).wp { P with nx := fun fr' m' => (sWhile t b fr' m').wp P, ct := fun fr' m' => (sWhile t b fr' m').wp P, bk := fun fr' m' => P.nx fr' m' } else P.nx fr m1) (fun c m => P.ex c fr m) := by
  rw [sWhile_eq, w_ofRes]
  congr 1
  funext x m1
  cases x with
  | false => rfl
  | true =>
    simp only [if_true]
    cases b fr m1 <;> rfl
theorem w_fn {np nl : Nat} {b : MS} {args : List MV} (h : args.length = np) : (fnOf np nl b args m).wp Q E = (b (args.map some ++ List.replicate nl none) m).wp { nx := fun _ m' => Q .non m', rt := Q, ex := fun c _ m' => E c m' } := by
  unfold fnOf
  rw [if_pos h]
  cases b (args.map some ++ List.replicate nl none) m <;> rfl
/-! operators -/
@[simp] theorem o_add {i j : Int} : oAdd (.int i) (.int j) m = .ok (.int (i + j)) m := rfl
@[simp] theorem o_sub {i j : Int} : oSub (.int i) (.int j) m = .ok (.int (i - j)) m := rfl
@[simp] theorem o_neg {i : Int} : oNeg (.int i) m = .ok (.int (-i)) m := rfl
@[simp] theorem o_abs {i : Int} : oAbs (.int i) m = .ok (.int (if i < 0 then -i else i)) m := rfl
@[simp] theorem o_mul {i j : Int} : (oMul (.int i) (.int j) m).wp Q E = (mulOk i j ∧ Q (.int (i * j)) m) := by
  by_cases h : mulOk i j <;> simp [oMul, h]
@[simp] theorem o_div {i j : Int} : (oDiv (.int i) (.int j) m).wp Q E = ((j ≠ 0 ∧ j.natAbs < DIVB) ∧ Q (.int (i.fdiv j)) m) := by
  by_cases h : j ≠ 0 ∧ j.natAbs < DIVB
  · have e : oDiv (.int i) (.int j) m = .ok (.int (i.fdiv j)) m := if_pos h
    rw [e]
    simp [h]
  · have e : oDiv (.int i) (.int j) m = .bad := if_neg h
    rw [e]
    simp [h]
@[simp] theorem o_mod {i j : Int} : (oMod (.int i) (.int j) m).wp Q E = (j ≠ 0 ∧ Q (.int (i.fmod j)) m) := by
  by_cases h : j ≠ 0
  · have e : oMod (.int i) (.int j) m = .ok (.int (i.fmod j)) m := if_pos h
    rw [e]
    simp [h]
  · have e : oMod (.int i) (.int j) m = .bad := if_neg h
    rw [e]
    simp [h]
@[simp] theorem o_lt {i j : Int} : oLt (.int i) (.int j) m = .ok (.bl (decide (i < j))) m := rfl
@[simp] theorem o_le {i j : Int} : oLe (.int i) (.int j) m = .ok (.bl (decide (i ≤ j))) m := rfl
@[simp] theorem o_gt {i j : Int} : oGt (.int i) (.int j) m = .ok (.bl (decide (j < i))) m := rfl
@[simp] theorem o_ge {i j : Int} : oGe (.int i) (.int j) m = .ok (.bl (decide (j ≤ i))) m := rfl
@[simp] theorem o_eqi {i j : Int} : oEq (.int i) (.int j) m = .ok (.bl (decide (i = j))) m := rfl
@[simp] theorem o_nei {i j : Int} : oNe (.int i) (.int j) m = .ok (.bl (!decide (i = j))) m := rfl
@[simp] theorem o_bl {b : Bool} : isBl (.bl b) m = .ok b m := rfl
@[simp] theorem tr_bl {b : Bool} : truth (.bl b) m = .ok b m := rfl
@[simp] theorem o_ix0 {x : MV} {xs : List MV} : oIx (.tup (x :: xs)) (.int 0) m = .ok x m := rfl
@[simp] theorem o_ix1 {x y : MV} {xs : List MV} : oIx (.tup (x :: y :: xs)) (.int 1) m = .ok y m := rfl
@[simp] theorem o_ix2 {x y z : MV} {xs : List MV} : oIx (.tup (x :: y :: z :: xs)) (.int 2) m = .ok z m := rfl
@[simp] theorem o_ix3 {x y z w : MV} {xs : List MV} : oIx (.tup (x :: y :: z :: w :: xs)) (.int 3) m = .ok w m := rfl
@[simp] theorem o_ix4 {x y z w u : MV} {xs : List MV} : oIx (.tup (x :: y :: z :: w :: u :: xs)) (.int 4) m = .ok u m := rfl
theorem o_ixL {n : Nat} {i : Int} {xs : List MV} (h : m[n]? = some (.lst xs)) : oIx (.ref n) (.int i) m = match atI xs i with
    | some v => .ok v m
    | none => .bad := by
  show (match m[n]? with | some (.lst xs) => _ | some (.rol xs) => _ | some (.dct _ kvs) => _ | _ => _) = _
  rw [h] <;> rfl
@[simp] theorem at0 {α : Type} {x : α} {xs : List α} : atI (x :: xs) 0 = some x := rfl
@[simp] theorem at1 {α : Type} {x y : α} {xs : List α} : atI (x :: y :: xs) 1 = some y := rfl
@[simp] theorem at2 {α : Type} {x y z : α} {xs : List α} : atI (x :: y :: z :: xs) 2 = some z := rfl
@[simp] theorem at3 {α : Type} {x y z w : α} {xs : List α} : atI (x :: y :: z :: w :: xs) 3 = some w := rfl
theorem o_lenL {n : Nat} {xs : List MV} (h : m[n]? = some (.lst xs)) : oLen (.ref n) m = .ok (.int xs.length) m := by
  show (match m[n]? with | some (.lst xs) => _ | some (.rol xs) => _ | some (.dct _ kvs) => _ | _ => _) = _
  rw [h]
@[simp] theorem o_lenT {xs : List MV} : oLen (.tup xs) m = .ok (.int xs.length) m := rfl
theorem put_lst {n : Nat} {i : Int} {v : MV} {xs : List MV} (h : m[n]? = some (.lst xs)) : putIx (.ref n) (.int i) v m = match atN xs.length i with
    | some j => some (m.set n (.lst (xs.set j v)))
    | none => none := by
  show (match m[n]? with | some (.lst xs) => _ | some (.dct false kvs) => _ | _ => _) = _
  rw [h] <;> rfl
theorem mulOk_l {i j : Int} (h : i.natAbs < 18446744073709551616) : mulOk i j := .inl h
theorem mulOk_r {i j : Int} (h : j.natAbs < 18446744073709551616) : mulOk i j := .inr (.inl h)
end

/-! loops over what is walked -/
section
variable {fr : Fr} {m : Mem} {P : SR.Post} {keep : Mem → Prop} {g : MG} {b : MS}
theorem w_for {it : MI} {w : Walk} {m1 : Mem} (h : it fr m = .ok w m1) (hl : w.lock = none) : (sFor it g b fr m).wp P = (forL w.keep g b w.items fr m1).wp P := by
  unfold sFor
  rw [h]
  simp only [ofRes_ok, hl]
theorem w_forW {it : MI} : (sFor it g b fr m).wp P = (it fr m).wp (fun w m1 => (match w.lock with
    | none => forL w.keep g b w.items fr m1
    | some n => match m1[n]? with
      | some (.dct true _) => forL w.keep g b w.items fr m1
      | some (.dct false kvs) => (forL w.keep g b w.items fr (m1.set n (.dct true kvs))).unlk n kvs
      | _ => .bad : SR).wp P) (fun c m => P.ex c fr m) := w_ofRes
theorem w_forL0 : (forL keep g b [] fr m).wp P = (keep m ∧ P.nx fr m) := by
  unfold forL
  by_cases h : keep m <;> simp [h]
theorem w_forL1 {v : MV} {vs : List MV} : (forL keep g b (v :: vs) fr m).wp P = (keep m ∧ (g v fr m).wp { P with nx := fun fr m => (b fr m).wp { P with nx := fun fr m => (forL keep g b vs fr m).wp P, ct := fun fr m => (forL keep g b vs fr m).wp P, bk := P.nx }, ct := fun fr m => (forL keep g b vs fr m).wp P, bk := P.nx }) := by
  conv => lhs; unfold forL
  by_cases h : keep m
  · simp only [h, if_true, true_and]
    cases hg : g v fr m with
    | nx fr1 m1 =>
      simp only [SR.andThen_nx, SR.wp_nx]
      cases b fr1 m1 <;> rfl
    | _ => rfl
  · simp [h]
/-- by an invariant of what is still to come -/
theorem for_inv {items : List MV} (I : List MV → Fr → Mem → Prop) (h0 : I items fr m) (hk : ∀ vs fr m, I vs fr m → keep m) (hs : ∀ v vs fr m, I (v :: vs) fr m → (g v fr m).wp { P with nx := fun fr m => (b fr m).wp { P with nx := I vs, ct := I vs, bk := P.nx }, ct := I vs, bk := P.nx })
    (hd : ∀ fr m, I [] fr m → P.nx fr m) : (forL keep g b items fr m).wp P := by
  induction items generalizing fr m with
  | nil => rw [w_forL0]; exact ⟨hk _ _ _ h0, hd _ _ h0⟩
  | cons v vs ih =>
    rw [w_forL1]
    refine ⟨hk _ _ _ h0, ?_⟩
    refine SR.wp_mono (hs v vs fr m h0) (fun fr1 m1 h1 => ?_) (fun _ _ h => h) (fun _ _ h => h) (fun fr1 m1 h1 => ih h1) (fun _ _ _ h => h)
    exact SR.wp_mono h1 (fun fr2 m2 h2 => ih h2) (fun _ _ h => h) (fun _ _ h => h) (fun fr2 m2 h2 => ih h2) (fun _ _ _ h => h)
@[simp] theorem w_gTup {gs : List MG} {vs : List MV} : gTup gs (.tup vs) fr m = if vs.length = gs.length then gAll gs vs fr m else .bad := rfl
@[simp] theorem w_gAll0 : (gAll [] [] fr m).wp P = P.nx fr m := rfl
@[simp] theorem w_gAll1 {gs : List MG} {v : MV} {vs : List MV} : (gAll (g :: gs) (v :: vs) fr m).wp P = (g v fr m).wp { P with nx := fun fr m => (gAll gs vs fr m).wp P } := SR.wp_andThen _ _ _
/-! comprehensions -/
variable {t : MT} {e : ME} {n : Nat} {Q : MV → Mem → Prop} {E : Str → Mem → Prop}
theorem w_comp {own : List Nat} {it : MI} {w : Walk} {m1 : Mem} (h : it fr m = .ok w m1) (hl : w.lock = none) : (eComp own it g t e fr m).wp Q E = (compL w.keep g t e (wipe fr own) m1.length w.items [] (m1 ++ [.lst []])).wp Q E := by
  unfold eComp
  rw [h]
  simp only [Res.bind_ok, hl]
theorem w_compL0 {acc : List MV} : (compL keep g t e fr n [] acc m).wp Q E = ((keep m ∧ m[n]? = some (.lst acc)) ∧ Q (.ref n) m) := by
  unfold compL
  by_cases h : keep m ∧ m[n]? = some (.lst acc)
  · rw [if_pos h]; simp [h]
  · rw [if_neg h]; simp [h]
/-- by an invariant of what is still to come and what is made -/
theorem comp_inv {items : List MV} {acc : List MV} (I : List MV → List MV → Mem → Prop) (h0 : I items acc m) (hk : ∀ vs acc m, I vs acc m → keep m ∧ m[n]? = some (.lst acc))
    (hs : ∀ v vs acc m, I (v :: vs) acc m → (g v fr m).wp { nx := fun fr1 m1 => (t fr1 m1).wp (fun b m2 => if b = true then (e fr1 m2).wp (fun y m3 => m3[n]? = some (.lst acc) ∧ acc.length < LINE ∧ I vs (acc ++ [y]) (m3.set n (.lst (acc ++ [y])))) (fun _ _ => False) else I vs acc m2) (fun _ _ => False), rt := fun _ _ => False })
    (hd : ∀ acc m, I [] acc m → Q (.ref n) m) : (compL keep g t e fr n items acc m).wp Q E := by
  induction items generalizing acc m with
  | nil => rw [w_compL0]; exact ⟨hk _ _ _ h0, hd _ _ h0⟩
  | cons v vs ih =>
    unfold compL
    rw [if_pos (hk _ _ _ h0)]
    have h1 := hs v vs acc m h0
    cases hg : g v fr m with
    | nx fr1 m1 =>
      rw [hg] at h1
      simp only [SR.wp_nx] at h1
      cases ht : t fr1 m1 with
      | ok b m2 =>
        simp only [ht, Res.wp_ok] at h1 ⊢
        cases b with
        | false => exact ih h1
        | true =>
          simp only [if_true] at h1
          cases he : e fr1 m2 with
          | ok y m3 =>
            simp only [he, Res.wp_ok] at h1 ⊢
            rw [if_pos ⟨h1.1, h1.2.1⟩]
            exact ih h1.2.2
          | exc c m3 => rw [he] at h1; exact h1.elim
          | bad => rw [he] at h1; exact h1.elim
      | exc c m2 => rw [ht] at h1; exact h1.elim
      | bad => rw [ht] at h1; exact h1.elim
    | rt v m1 => rw [hg] at h1; exact h1.elim
    | bk fr m1 => rw [hg] at h1; exact h1.elim
    | ct fr m1 => rw [hg] at h1; exact h1.elim
    | exc c fr m1 => rw [hg] at h1; exact h1.elim
    | bad => rw [hg] at h1; exact h1.elim
end
theorem mulOk_fmod {x y p : Int} (h : 0 < p ∧ p < 18446744073709551616) : mulOk (x.fmod p) y := by
  have h1 := Int.fmod_nonneg_of_pos x h.1
  have h2 := Int.fmod_lt_of_pos x h.1
  exact .inl (by omega)
theorem while_inv {t : MT} {b : MS} {P : SR.Post} (I : Nat → Fr → Mem → Prop) (h : ∀ n fr m, I n fr m → (t fr m).wp (fun x m1 => if x = true then (b fr m1).wp { P with nx := fun fr m => ∃ k, k < n ∧ I k fr m, ct := fun fr m => ∃ k, k < n ∧ I k fr m, bk := P.nx } else P.nx fr m1) (fun c m => P.ex c fr m)) :
    ∀ (n : Nat) {fr : Fr} {m : Mem}, I n fr m → (sWhile t b fr m).wp P := by
  intro n
  induction n using Nat.strongRecOn with
  | _ n ih =>
    intro fr m hi
    rw [w_while]
    refine Res.wp_mono (h n fr m hi) (fun x m1 h1 => ?_) fun _ _ h => h
    cases x with
    | false => exact h1
    | true =>
      simp only [if_true] at h1 ⊢
      exact SR.wp_mono h1 (fun fr m ⟨k, hk, q⟩ => ih k hk q) (fun _ _ h => h) (fun _ _ h => h) (fun fr m ⟨k, hk, q⟩ => ih k hk q) (fun _ _ _ h => h)
theorem w_compL1 {keep : Mem → Prop} {g : MG} {t : MT} {e : ME} {fr : Fr} {n : Nat} {v : MV} {vs acc : List MV} {m : Mem} {Q : MV → Mem → Prop} {E : Str → Mem → Prop} : (compL keep g t e fr n (v :: vs) acc m).wp Q E = ((keep m ∧ m[n]? = some (.lst acc)) ∧ (g v fr m).wp { nx := fun fr1 m1 => (t fr1 m1).wp (fun b m2 => if b = true then (e fr1 m2).wp (fun y m3 => (m3[n]? = some (.lst acc) ∧ acc.length < LINE) ∧ (compL keep g t e fr n vs (acc ++ [y]) (m3.set n (.lst (acc ++ [y])))).wp Q E) (fun _ _ => False) else (compL keep g t e fr n vs acc m2).wp Q E) (fun _ _ => False), rt := fun _ _ => False }) := by
  conv => lhs; unfold compL
  by_cases h : keep m ∧ m[n]? = some (.lst acc)
  · rw [if_pos h]
    simp only [h, and_self, true_and]
    cases hg : g v fr m with
    | nx fr1 m1 =>
      simp only [SR.wp_nx]
      cases ht : t fr1 m1 with
      | ok b m2 =>
        cases b with
        | false => simp [ht]
        | true =>
          simp only [ht, Res.wp_ok, if_true]
          cases he : e fr1 m2 with
          | ok y m3 =>
            simp only [Res.wp_ok]
            by_cases h3 : m3[n]? = some (.lst acc) ∧ acc.length < LINE
            · rw [if_pos h3]; simp [h3]
            · rw [if_neg h3]; simp [h3]
          | _ => rfl
      | _ => rfl
    | _ => rfl
  · rw [if_neg h]
    simp [h]
theorem w_append {o v : ME} {fr : Fr} {m m1 : Mem} {n : Nat} {xs : List MV} {Q : MV → Mem → Prop} {E : Str → Mem → Prop} (h1 : o fr m = .ok (.ref n) m1) (h2 : m1[n]? = some (.lst xs)) : (eAppend o v fr m).wp Q E = (v fr m1).wp (fun y m2 => match m2[n]? with
    | some (.lst ys) => ys.length < LINE ∧ Q .non (m2.set n (.lst (ys ++ [y])))
    | _ => False) E := by
  unfold eAppend
  rw [h1]
  simp only [Res.bind_ok, h2]
  rw [Res.wp_bind]
  congr 1
  funext y m2
  cases h : m2[n]? with
  | none => rfl
  | some o =>
    cases o with
    | lst ys =>
      by_cases hl : ys.length < LINE
      · simp [hl]
      · simp [hl]
    | _ => rfl
/-- what holds between two statements -/
theorem seq_mid {a b : MS} {fr : Fr} {m : Mem} {P : SR.Post} (R : Fr → Mem → Prop) (h1 : (a fr m).wp { P with nx := R }) (h2 : ∀ fr m, R fr m → (b fr m).wp P) : (sSeq a b fr m).wp P := by
  rw [w_seq]
  exact SR.wp_mono h1 h2 (fun _ _ h => h) (fun _ _ h => h) (fun _ _ h => h) (fun _ _ _ h => h)
theorem w_pairs0 {fr : Fr} {m : Mem} {Q : List (Key × MV) → Mem → Prop} {E : Str → Mem → Prop} : (pairs [] fr m).wp Q E = Q [] m := rfl
theorem w_pairs1 {k v : ME} {r : List (ME × ME)} {fr : Fr} {m : Mem} {Q : List (Key × MV) → Mem → Prop} {E : Str → Mem → Prop} : (pairs ((k, v) :: r) fr m).wp Q E = (k fr m).wp (fun x m1 => (v fr m1).wp (fun y m2 => (pairs r fr m2).wp (fun kvs m3 => match keyOf x with
    | some c => Q ((c, y) :: kvs) m3
    | none => False) E) E) E := by
  conv => lhs; unfold pairs
  rw [Res.wp_bind]
  congr 1
  funext x m1
  rw [Res.wp_bind]
  congr 1
  funext y m2
  rw [Res.wp_bind]
  congr 1
  funext kvs m3
  cases keyOf x <;> rfl
theorem w_eDct {ps : List (ME × ME)} {fr : Fr} {m : Mem} {Q : MV → Mem → Prop} {E : Str → Mem → Prop} : (eDct ps fr m).wp Q E = (pairs ps fr (m ++ [.dct false []])).wp (fun kvs m1 => match m1[m.length]? with
    | some (.dct false []) => Q (.ref m.length) (m1.set m.length (.dct false (mergeD [] kvs)))
    | _ => False) E := by
  unfold eDct
  rw [Res.wp_bind]
  congr 1
  funext kvs m1
  cases h : m1[m.length]? with
  | none => rfl
  | some o => cases o with
    | dct lk xs => cases lk <;> cases xs <;> rfl
    | _ => rfl
theorem w_eOrT {a b : ME} {fr : Fr} {m : Mem} {Q : MV → Mem → Prop} {E : Str → Mem → Prop} : (eOrT a b fr m).wp Q E = (a fr m).wp (fun x m1 => (truth x m1).wp (fun k m2 => if k = true then Q x m2 else (b fr m2).wp Q E) E) E := by
  unfold eOrT
  rw [Res.wp_bind]
  congr 1
  funext x m1
  rw [Res.wp_bind]
  congr 1
  funext k m2
  cases k <;> rfl
end MP

/-! MLinkPt: new tuples with what is known of their objects; dict(t) of a tuple. -/
namespace ML
open PySem PySem.Spec PyProof.Rows L2
section
variable {X : Cx} {es : List Expr} {t : TA} {pos : Pos}
abbrev NewT (H : Hp) (xs : List V) (Q : VK) : Prop := ∀ (p : Addr) (o : Obj), H p = none → o.dict = none → Q (.ref p) (upd H p (.frz o (.tup xs)))
def tTupF (t : TA) : TE := fun σ H Q => t σ H fun xs H1 => xs.length ≤ sizeLine ∧ NewT H1 xs Q
theorem pe_tupF {x1} (h : PA X es t) : PE X (.Tuple es x1 pos) (tTupF t) := by
  refine ⟨fun pins s σ H Q I hq => ?_⟩
  refine wpAny_Tuple_spliced (thn (h.run pos pins s σ H _ I hq) fun us s1 ⟨xs, H1, I1, r, z, q⟩ => ⟨by rw [← r.length]; exact z, ?_⟩)
  have hf : H1 s1.heap.objs.size = none := I1.hok.fresh (Nat.le_refl _)
  refine ⟨.ref s1.heap.objs.size, upd H1 s1.heap.objs.size (.frz { cls := .type "tuple", data := .seq us.toArray } (.tup xs)), I1.laid (t' := s1.toks) (fun b u e => Heap.get?_push_of_some _ e) (Nat.le_refl _) ?_, rfl, q _ _ hf rfl⟩
  exact ⟨Heap.get?_push_size _ rfl, z, us, r, ⟨_, Heap.get?_push_size _ rfl, rfl, _, rfl⟩⟩
def rCatF (K : PySem.W.Frag) : R2 := fun x y H Q => ∃ a b xs ys, x = .ref a ∧ y = .ref b ∧ SqT K H a xs ∧ SqT K H b ys ∧ xs.length + ys.length ≤ sizeLine ∧
  (xs = [] → Q (.ref b) H) ∧ (xs ≠ [] → ys = [] → Q (.ref a) H) ∧ (xs ≠ [] → ys ≠ [] → NewT H (xs ++ ys) Q)
theorem op_catF : OpR X (binaryOp .Add) (rCatF X.K) := by
  intro pins s σ H x y v u Q I rx ry h
  obtain ⟨a, b, xs, ys, rfl, rfl, ha, hb, hz, q0, q1, q2⟩ := h
  cases rx
  cases ry
  obtain ⟨its, r1, p1, _⟩ := I.tuple ha
  obtain ⟨its2, r2, p2, _⟩ := I.tuple hb
  by_cases hx : xs = []
  · subst hx
    cases r1
    exact cat_tup0 p1 p2 ⟨.ref b, H, I, rfl, q0 rfl⟩
  · refine HT.cat_tup p1 p2 (fun z => hx (r1.nil_iff.mp z)) (fun z => ⟨.ref a, H, I, rfl, q1 hx (r2.nil_iff.mp z)⟩) (fun z => ?_) (by rw [← r1.length, ← r2.length]; exact hz)
    refine ⟨.ref s.heap.objs.size, _, I.laid (t' := s.toks) (o := .frz { cls := .type "tuple", data := .seq (its ++ its2).toArray } (.tup (xs ++ ys))) (fun b ob q => Heap.get?_push_of_some _ q) (Nat.le_refl _) ?_, rfl, q2 hx (fun w => z (r2.nil_iff.mpr w)) _ _ (I.hok.fresh (Nat.le_refl _)) rfl⟩
    exact ⟨Heap.get?_push_size _ rfl, by rw [List.length_append]; exact hz, _, r1.append r2, IsTup.new _ _⟩
def rSlF (K : PySem.W.Frag) : V → Option Int → Option Int → Hp → VK → Prop := fun x lo hi H Q => ∃ a xs, x = .ref a ∧ SqT K H a xs ∧
  (HT.sIx xs.length 0 lo = 0 ∧ HT.sIx xs.length xs.length hi = xs.length → Q (.ref a) H) ∧ (¬ (HT.sIx xs.length 0 lo = 0 ∧ HT.sIx xs.length xs.length hi = xs.length) → NewT H (cutV xs lo hi) Q)
theorem sl_tupF : SlR X (rSlF X.K) := by
  intro pins s σ H x v vl vu lo hi sl Q I rx hs pl pu h
  obtain ⟨a, xs, rfl, hx, q1, q2⟩ := h
  cases rx
  obtain ⟨its, r, ht, hz⟩ := I.tuple hx
  have hlen : its.toArray.size = xs.length := by rw [List.size_toArray]; exact r.length.symm
  by_cases hw : HT.sIx xs.length 0 lo = 0 ∧ HT.sIx xs.length xs.length hi = xs.length
  · refine ⟨"tuple", _, PyProof.Rows.slot_tuple_getitem.lookup, ht.typeIs, ?_⟩
    exact getItem_tuple_whole ht hs pl pu (by rw [hlen]; exact hw) ⟨.ref a, H, I, rfl, q1 hw⟩
  · refine ⟨"tuple", _, PyProof.Rows.slot_tuple_getitem.lookup, ht.typeIs, ?_⟩
    refine HT.getItem_tuple_cut ht hs pl pu (by rw [hlen]; exact hw) ?_ (by rw [hlen]; exact hz)
    rw [hlen]
    refine ⟨.ref s.heap.objs.size, _, I.laid (t' := s.toks) (o := .frz { cls := .type "tuple", data := .seq ((its.toArray.toList.drop (HT.sIx xs.length 0 lo)).take (HT.sIx xs.length xs.length hi - HT.sIx xs.length 0 lo)).toArray } (.tup (cutV xs lo hi))) (fun b ob q => Heap.get?_push_of_some _ q) (Nat.le_refl _) ?_, rfl, q2 hw _ _ (I.hok.fresh (Nat.le_refl _)) rfl⟩
    exact ⟨Heap.get?_push_size _ rfl, Nat.le_trans (cutV_length xs lo hi) hz, _, (r.drop (HT.sIx xs.length 0 lo)).take (HT.sIx xs.length xs.length hi - HT.sIx xs.length 0 lo), IsTup.new _ _⟩
theorem call_tupleF : CallR X (.type "tuple") (fun xs H Q => ∃ p ys, xs = [.ref p] ∧ ((SqL X.K H p ys ∧ NewT H ys Q) ∨ (SqT X.K H p ys ∧ Q (.ref p) H))) := by
  intro pins s σ H xs us Q I r h
  obtain ⟨p, ys, rfl, h⟩ := h
  obtain ⟨u, rfl, rx⟩ := vals1 r
  cases rx
  rcases h with ⟨hq, q⟩ | ⟨hq, q⟩
  · obtain ⟨its, r', pl, hz⟩ := I.list hq
    have hlen := r'.length
    refine call_tuple_list pl.isList (fun h' kp => ?_) (by simp only [List.size_toArray] <;> omega)
    have I1 : Inv X pins σ H { s with heap := h' } := I.kept (t' := s.toks) kp
    have I2 : Inv X pins σ (upd H h'.objs.size (.frz { cls := .type "tuple", data := .seq its.toArray } (.tup ys))) { s with heap := h'.push { cls := .type "tuple", data := .seq its.toArray } } :=
      I1.laid (t' := s.toks) (fun b o e => Heap.get?_push_of_some _ e) (Nat.le_refl _) (show ObjOk X.prog X.w _ _ _ (.frz _ (.tup ys)) from ⟨Heap.get?_push_size _ rfl, hz, its, r', IsTup.new _ _⟩)
    exact ⟨.ref h'.objs.size, _, I2, rfl, q _ _ (I1.hok.fresh (Nat.le_refl _)) rfl⟩
  · obtain ⟨its, r', pl, hz⟩ := I.tuple hq
    exact call_tuple_same pl ⟨.ref p, H, I, rfl, q⟩
/-! ### dict(t) -/
/-- the tuple's object has no dict -/
def Pln (K : PySem.W.Frag) (H : Hp) (a : Addr) : Prop := (∃ o vs, H a = some (.frz o (.tup vs)) ∧ o.dict = none) ∨ ∃ o, K.lookup a = some o ∧ o.dict = none
end
section
variable {prog : Program} {w : World} {A : Around} {E : Value → Shared → Prop}
theorem upd_loopT {R : Result → Shared → Prop} {S I l : Addr} {items : Array Value} {res : Value} (hh : A.handled = none) (hlI : l ≠ I) (hSI : S ≠ I) (hSl : S ≠ l) :
    ∀ (rest : List (Key × Value)) (i : Nat) (acc : List (Key × Value)) (ix : Int) (t : Tok) (s : Shared), items.size = i + rest.length → acc.length + rest.length ≤ sizeLine →
      (∀ (j : Nat) (q : Key × Value), rest[j]? = some q → ∃ (b : Addr) (u : Value), items[i + j]? = some (.ref b) ∧ b ≠ S ∧ b ≠ I ∧ IsTup s.heap b #[u, q.2] ∧ keyIs q.1 u = true) →
      s.heap.IsTupleIter I l i → s.heap.IsTuple l items → s.heap.DictOf (mixKind prog w) S acc →
      (∀ h' tk, h'.DictOf (mixKind prog w) S (merged acc rest) → (∀ b o, b ≠ S → b ≠ I → s.heap.get? b = some o → h'.get? b = some o) → R (.ok (.ret res)) { s with heap := h', toks := tk }) →
      codeAny (model prog w) A (.builtin "dict.update.loop" ⟨[.ref S, .ref I, .int ix t, res], []⟩) R s
  | [], i, acc, ix, t, s, hsz, hln, ht, hit, hl, hm, hR => by
    refine codeAny_builtin ud_entry ?_
    rw [Around.under_plainId ud_plain _]
    show wpAny _ A.in1 (pyNext (.ref I) >>= _) _ _ s
    refine wpAny_bind (wpAny_pyNext_tuple_end (A := A.in1) hh hit hl (by first | exact Array.getElem?_eq_none (Nat.le_of_eq hsz) | (simp at hsz; simp; omega)) fun h' he => ?_)
    show wpAny _ A.in1 (Builtin.Dict.addKeywords S [] >>= _) _ _ _
    refine wpAny_bind (wpAny_pure (wpAny_pure ?_))
    exact hR h' s.toks (hm.extBut he hSI) fun b o _ hb e => he b o hb e
  | q :: rest, i, acc, ix, t, s, hsz, hln, ht, hit, hl, hm, hR => by
    obtain ⟨b, u, hb, hbS, hbI, htup, hk⟩ := ht 0 q rfl
    rw [List.length_cons] at hsz hln
    refine codeAny_builtin ud_entry ?_
    rw [Around.under_plainId ud_plain _]
    show wpAny _ A.in1 (pyNext (.ref I) >>= _) _ _ s
    refine wpAny_bind (wpAny_pyNext_tuple_item (x := .ref b) hit hl (by simpa using hb) fun h1 hit1 hs1 => ?_)
    have ht1 : IsTup h1 b #[u, q.2] := htup.extBut hs1.extBut hbI
    have hl1 : h1.IsTuple l items := hl.at fun o' e => hs1.extBut l o' hlI e
    have hm1 : h1.DictOf (mixKind prog w) S acc := hm.extBut hs1.extBut hSI
    obtain ⟨o, ho, hc, n, hd⟩ := id ht1
    show wpAny _ A.in1 (holding [Value.ref b] _ >>= _) _ _ _
    refine wpAny_bind (wpAny_holding ?_)
    refine wpAny_bind (wpAny_tryCatch ?_)
    unfold Builtin.Dict.pairItems
    refine wpAny_bind (wpAny_typeOf (T := "tuple") ⟨o, ho, hc⟩ ?_)
    rw [if_pos (by first | decide | rfl | simp)]
    refine wpAny_bind (wpAny_seqItems ho hd (wpAny_pure ?_))
    show wpAny _ A.in1 (holding [u, q.2] (dictSet S u q.2)) _ _ _
    refine wpAny_holding (wpAny_dictSet_pairs (knd := mixKind prog w) (k := q.1) hk hm1 (fun h2 hm2 hs2 => ?_) (by omega))
    refine wpAny_pure ⟨plainId_quiet ud_plain _, upd_loopT (items := items) hh hlI hSI hSl rest (i + 1) (stored acc q.1 q.2) (ix + 1) 0 _ (show items.size = i + 1 + rest.length by omega) ?_ (fun j q' e => ?_) ?_ ?_ hm2 fun h' tk hd' k => ?_⟩
    · have z := stored_length_le acc q.1 q.2
      omega
    · obtain ⟨b', u', hb', hbS', hbI', htup', hk'⟩ := ht (j + 1) q' (by simpa using e)
      refine ⟨b', u', ?_, hbS', hbI', (htup'.extBut hs1.extBut hbI').extBut hs2.extBut hbS', hk'⟩
      rw [show i + 1 + j = i + (j + 1) by omega]
      exact hb'
    · exact hit1.at fun o' e => hs2.extBut I o' (Ne.symm hSI) e
    · exact hl1.at fun o' e => hs2.extBut l o' (Ne.symm hSl) e
    · exact hR h' tk hd' fun c oc h3 h4 e => k c oc h3 h4 (hs2.extBut c oc h3 (hs1.extBut c oc h4 e))
theorem call_dict_pairsT {s : Shared} {l : Addr} {ol : Obj} {items : Array Value} {n : Nat} {prs : List (Key × Value)} {Q : Value → Shared → Prop} (hh : A.handled = none) (hl : s.heap.get? l = some ol) (hc : ol.cls = .type "tuple") (hd : ol.dict = none)
    (hdat : ol.data = .seq items n) (hsz : items.size = prs.length) (hln : prs.length ≤ sizeLine)
    (ht : ∀ (j : Nat) (q : Key × Value), prs[j]? = some q → ∃ (b : Addr) (u : Value), items[j]? = some (.ref b) ∧ IsTup s.heap b #[u, q.2] ∧ keyIs q.1 u = true)
    (h : ∀ h' tk, h'.DictOf (mixKind prog w) s.heap.objs.size (merged [] prs) → (∀ b o, s.heap.get? b = some o → h'.get? b = some o) → Q (.ref s.heap.objs.size) { s with heap := h', toks := tk }) :
    wpAny (model prog w) A (call (.type "dict") [.ref l]) Q E s := by
  refine callType_codes (Q₁ := fun obj s₁ => obj = .ref s.heap.objs.size ∧ s₁ = { s with heap := s.heap.push { cls := .type "dict", data := .dict #[] } }) PySem.F.kt_called_dict (PySem.F.kt_typeCall_dict_1 _) PySem.F.entry_dict_init (kt_code_dict_new _ ⟨rfl, rfl⟩) ?_
  rintro obj s₁ ⟨rfl, rfl⟩
  have hnew : (s.heap.push { cls := .type "dict", data := .dict #[] }).DictOf (mixKind prog w) s.heap.objs.size [] := Heap.DictOf.new s.heap
  have k0 : ∀ b o, s.heap.get? b = some o → (s.heap.push { cls := .type "dict", data := .dict #[] }).get? b = some o := fun b o e => Heap.get?_push_of_some _ e
  refine ⟨hnew.typeIs, PySem.F.args_dict_init_2 _ _, ?_⟩
  unfold Builtin.«dict.__init__»
  refine wpAny_bind ?_
  unfold Builtin.Dict.selfAndRest
  refine wpAny_bind (wpAny_notOrdered_dict hnew.typeIs ?_)
  show wpAny _ _ (pure (s.heap.objs.size, [Value.ref l])) _ _ _
  refine wpAny_pure ?_
  show wpAny _ _ (Builtin.Dict.updateFrom "dict.__init__" s.heap.objs.size (.ref l) [] .none) _ _ _
  unfold Builtin.Dict.updateFrom
  refine wpAny_bind (wpAny_typeOf (T := "tuple") ⟨ol, k0 _ _ hl, hc⟩ ?_)
  rw [if_pos (by first | decide | rfl | simp)]
  refine wpAny_bind (getAttrOr_miss_tuple (k0 _ _ hl) hc hdat hd tuple_no_keys (by decide +kernel) hh (fun h1 tk1 hk1 => ?_))
  rw [if_pos (show (none : Option Value).isNone = true from rfl)]
  refine wpAny_bind (wpAny_rule ?_)
  have hl1 : h1.IsTuple l items := ⟨ol, hk1 _ _ (k0 _ _ hl), hc, n, hdat⟩
  have hS1 : s.heap.objs.size < h1.objs.size := by
    have e : (s.heap.push { cls := .type "dict", data := .dict #[] }).get? s.heap.objs.size = some { cls := .type "dict", data := .dict #[] } := Heap.get?_push_size _ rfl
    exact Heap.lt_size (hk1 _ _ e)
  refine wpAny_bind (wpAny_pyIter_tuple hl1 ?_)
  have k2 : ∀ b o, h1.get? b = some o → (h1.push { cls := .type "tuple_iterator", data := .fields #[.ref l, .int 0 0] }).get? b = some o := fun b o e => Heap.get?_push_of_some _ e
  have hlt : l < s.heap.objs.size := Heap.lt_size hl
  have key := upd_loopT (prog := prog) (w := w) (A := A.in1) (R := wants (fun r s₂ => r = .none ∧ Q (.ref s.heap.objs.size) s₂) E) (S := s.heap.objs.size) (I := h1.objs.size) (l := l) (items := items) (res := Value.none) hh
    (Nat.ne_of_lt (Nat.lt_trans hlt hS1)) (Nat.ne_of_lt hS1) (Nat.ne_of_gt hlt) prs 0 [] 0 0
    { s with heap := h1.push { cls := .type "tuple_iterator", data := .fields #[.ref l, .int 0 0] }, toks := tk1 } (by rw [hsz, Nat.zero_add]) (by rw [List.length_nil, Nat.zero_add]; exact hln)
    (fun j q e => by
      obtain ⟨b, u, e1, e2, e3⟩ := ht j q e
      have hb : b < s.heap.objs.size := e2.lt
      exact ⟨b, u, by rw [Nat.zero_add]; exact e1, Nat.ne_of_lt hb, Nat.ne_of_lt (Nat.lt_trans hb hS1), e2.keeps fun c o z => k2 _ _ (hk1 _ _ (k0 _ _ z)), e3⟩)
    ⟨_, Heap.get?_push_size _ rfl, rfl, rfl⟩ (hl1.at fun o e => k2 _ _ e) ((hnew.at fun o e => hk1 _ _ e).at fun o e => k2 _ _ e)
    (fun h' tk hd' k => ⟨rfl, h h' tk hd' fun b o e => k b o (Nat.ne_of_lt (Heap.lt_size e)) (Nat.ne_of_lt (Nat.lt_trans (Heap.lt_size e) hS1)) (k2 _ _ (hk1 _ _ (k0 _ _ e)))⟩)
  first
    | exact wpAny_pure ⟨plainId_quiet ud_plain _, key⟩
    | exact wpAny_bind (wpAny_pure (wpAny_pure ⟨plainId_quiet ud_plain _, key⟩))
end
section
variable {X : Cx}
theorem call_dictT (hcalm : X.calm = true) : CallR X (.type "dict") (fun xs H Q => ∃ (a : Addr) (ps : List Addr) (kvs : List (Key × V)), xs = [.ref a] ∧ SqT X.K H a (ps.map V.ref) ∧ Pln X.K H a ∧ Paired (fun p kv => SqT X.K H p [kV kv.1, kv.2]) ps kvs ∧
    ∀ p, H p = none → Q (.ref p) (upd H p (.dK (mergeK [] kvs)))) := by
  intro pins s σ H xs us Q I r q
  obtain ⟨a, ps, kvs, ex, hq, hpl, hp, q⟩ := q
  subst ex
  obtain ⟨u, eu, rx⟩ := vals1 r
  subst eu
  cases rx
  obtain ⟨its, rv, pl, hz⟩ := I.tuple hq
  have ei := refs_at rv
  subst ei
  rw [List.length_map] at hz
  obtain ⟨prs, rel, hl, hpr⟩ := pairs_of I hp
  obtain ⟨o, ho, hc, n, hdat⟩ := pl
  have hd : o.dict = none := by
    rcases hpl with ⟨o2, vs, h2, hn⟩ | ⟨o2, h2, hn⟩
    · have h3 := (show ObjOk X.prog X.w H s.heap a (.frz o2 (.tup vs)) from I.hok a _ h2).1
      rw [ho] at h3
      cases h3
      exact hn
    · have h3 := I.kIn a o2 h2
      rw [ho] at h3
      cases h3
      exact hn
  refine call_dict_pairsT (prs := prs) (I.ok.hd hcalm) ho hc hd hdat (by simp [hl]) (by rw [hl]; exact hz) (fun j q' e => ?_) fun h' tk hd' k => ?_
  · obtain ⟨b, u, e1, e2, e3⟩ := hpr j q' e
    exact ⟨b, u, by simp [e1], e2, e3⟩
  · have hm : (s.heap.objs.size == sysModules) = false := beq_eq_false_iff_ne.mpr (Nat.ne_of_gt I.big)
    have hlen : (mergeK [] kvs).length ≤ sizeLine := by
      refine Nat.le_trans (length_mergeK kvs []) ?_
      rw [List.length_nil, Nat.zero_add, rel.length, hl]
      exact hz
    exact ⟨.ref s.heap.objs.size, upd H s.heap.objs.size (.dK (mergeK [] kvs)), I.laid (t' := tk) k (Nat.le_refl _) (show ObjOk X.prog X.w _ _ _ (.dK (mergeK [] kvs)) from ⟨hlen, hm, merged [] prs, KV.merge rel .nil, hd'⟩), rfl, q _ (I.hok.fresh (Nat.le_refl _))⟩
end
end ML

/-! MLinkA: how the values and the memory of MP stand in the abstract heap. -/
namespace ML
open PySem PySem.Spec PyProof.Rows L2
open MP (MV MO Mem Fr ME MA MT MS MG MI MFn Res SR)

abbrev Rho := List Addr
/-- the exception that an except suite holds: its address, its class's name -/
abbrev ExH := Option (Addr × Str)

section
variable (K : PySem.W.Frag) (ex : ExH) (rho : Rho) (H : Hp)
mutual
def SimV : MV → V → Prop
  | .non, v => v = .non
  | .bl b, v => v = .bl b
  | .int i, v => v = .int i
  | .str s, v => v = .str s
  | .tup xs, v => ∃ a vs, v = .ref a ∧ SqT K H a vs ∧ (MP.pairsOf xs ≠ none → Pln K H a) ∧ SimL xs vs
  | .ref n, v => ∃ a, rho[n]? = some a ∧ v = .ref a
  | .exn c, v => ∃ a, ex = some (a, c) ∧ v = .ref a
def SimL : List MV → List V → Prop
  | [], vs => vs = []
  | x :: xs, vs => ∃ v vs', vs = v :: vs' ∧ SimV x v ∧ SimL xs vs'
end
end

/-- tuples stay, what is locked stays -/
structure Stay (H H' : Hp) : Prop where
  tup : ∀ a vs, H a = some (.tup vs) → H' a = some (.tup vs)
  frz : ∀ a o u, H a = some (.frz o u) → H' a = some (.frz o u)
theorem Stay.refl (H : Hp) : Stay H H := ⟨fun _ _ h => h, fun _ _ _ h => h⟩
theorem Stay.trans {H H1 H2 : Hp} (a : Stay H H1) (b : Stay H1 H2) : Stay H H2 := ⟨fun c vs h => b.tup c vs (a.tup c vs h), fun c o u h => b.frz c o u (a.frz c o u h)⟩
theorem Stay.seq {K : PySem.W.Frag} {H H' : Hp} {a : Addr} {vs : List V} (s : Stay H H') (h : SqT K H a vs) : SqT K H' a vs := by
  rcases h with (h | ⟨o, h⟩) | h
  · exact .inl (.inl (s.tup a vs h))
  · exact .inl (.inr ⟨o, s.frz a o _ h⟩)
  · exact .inr h
theorem Stay.new {H : Hp} {p : Addr} {o : HO} (h : H p = none) : Stay H (upd H p o) :=
  ⟨fun a vs e => by rw [upd_ne (ne_of_none e h)]; exact e, fun a b u e => by rw [upd_ne (ne_of_none e h)]; exact e⟩
/-- a list, a dict, an instance is written -/
theorem Stay.write {H : Hp} {p : Addr} {o u : HO} (h : H p = some o) (h1 : ∀ vs, o ≠ .tup vs) (h2 : ∀ b v, o ≠ .frz b v) : Stay H (upd H p u) :=
  ⟨fun a vs e => by rw [upd_ne (ne_of e h (Ne.symm (h1 vs)))]; exact e, fun a b v e => by rw [upd_ne (ne_of e h (Ne.symm (h2 b v)))]; exact e⟩

/-- what a value's relation needs of it -/
structure StayT (H H' : Hp) : Prop where
  tup : ∀ a vs, H a = some (.tup vs) → H' a = some (.tup vs)
  ftup : ∀ a o vs, H a = some (.frz o (.tup vs)) → H' a = some (.frz o (.tup vs))
  flst : ∀ a o vs, H a = some (.frz o (.lst vs)) → H' a = some (.frz o (.lst vs))
theorem Stay.t {H H' : Hp} (s : Stay H H') : StayT H H' := ⟨s.tup, fun a o vs h => s.frz a o _ h, fun a o vs h => s.frz a o _ h⟩
theorem StayT.seq {K : PySem.W.Frag} {H H' : Hp} {a : Addr} {vs : List V} (s : StayT H H') (h : SqT K H a vs) : SqT K H' a vs := by
  rcases h with (h | ⟨o, h⟩) | h
  · exact .inl (.inl (s.tup a vs h))
  · exact .inl (.inr ⟨o, s.ftup a o _ h⟩)
  · exact .inr h
theorem StayT.pln {K : PySem.W.Frag} {H H' : Hp} {a : Addr} (s : StayT H H') (h : Pln K H a) : Pln K H' a := by
  rcases h with ⟨o, vs, h, hn⟩ | h
  · exact .inl ⟨o, vs, s.ftup a o vs h, hn⟩
  · exact .inr h
def Sub (rho rho' : Rho) : Prop := ∀ (n : Nat) (a : Addr), rho[n]? = some a → rho'[n]? = some a
theorem Sub.refl (rho : Rho) : Sub rho rho := fun _ _ h => h
theorem Sub.trans {r r1 r2 : Rho} (a : Sub r r1) (b : Sub r1 r2) : Sub r r2 := fun n x h => b n x (a n x h)
theorem Sub.snoc (rho : Rho) (p : Addr) : Sub rho (rho ++ [p]) := fun n a h => by
  have hl := (List.getElem?_eq_some_iff.mp h).1
  rw [List.getElem?_append_left hl]
  exact h

section
variable {K : PySem.W.Frag} {ex : ExH} {rho rho' : Rho} {H H' : Hp}
mutual
theorem SimV.monoT (hs : StayT H H') (hr : Sub rho rho') : ∀ {x : MV} {v : V}, SimV K ex rho H x v → SimV K ex rho' H' x v
  | .non, v, h => h
  | .bl b, v, h => h
  | .int i, v, h => h
  | .str s, v, h => h
  | .tup xs, v, h => by
    unfold SimV at h ⊢
    obtain ⟨a, vs, e, q, hp, l⟩ := h
    exact ⟨a, vs, e, hs.seq q, fun z => hs.pln (hp z), SimL.monoT hs hr l⟩
  | .ref n, v, h => by
    unfold SimV at h ⊢
    obtain ⟨a, q, e⟩ := h
    exact ⟨a, hr n a q, e⟩
  | .exn c, v, h => h
theorem SimL.monoT (hs : StayT H H') (hr : Sub rho rho') : ∀ {xs : List MV} {vs : List V}, SimL K ex rho H xs vs → SimL K ex rho' H' xs vs
  | [], vs, h => h
  | x :: xs, vs, h => by
    unfold SimL at h ⊢
    obtain ⟨v, vs', e, q, l⟩ := h
    exact ⟨v, vs', e, SimV.monoT hs hr q, SimL.monoT hs hr l⟩
end
theorem SimV.mono (hs : Stay H H') (hr : Sub rho rho') {x : MV} {v : V} (h : SimV K ex rho H x v) : SimV K ex rho' H' x v := h.monoT hs.t hr
theorem SimL.mono (hs : Stay H H') (hr : Sub rho rho') {xs : List MV} {vs : List V} (h : SimL K ex rho H xs vs) : SimL K ex rho' H' xs vs := h.monoT hs.t hr
mutual
/-- what holds without an exception in hand holds with one -/
theorem SimV.ex0 (ex : ExH) : ∀ {x : MV} {v : V}, SimV K none rho H x v → SimV K ex rho H x v
  | .non, v, h => h
  | .bl b, v, h => h
  | .int i, v, h => h
  | .str s, v, h => h
  | .tup xs, v, h => by
    unfold SimV at h ⊢
    obtain ⟨a, vs, e, q, hp, l⟩ := h
    exact ⟨a, vs, e, q, hp, SimL.ex0 ex l⟩
  | .ref n, v, h => h
  | .exn c, v, h => by
    unfold SimV at h
    obtain ⟨a, q, _⟩ := h
    cases q
theorem SimL.ex0 (ex : ExH) : ∀ {xs : List MV} {vs : List V}, SimL K none rho H xs vs → SimL K ex rho H xs vs
  | [], vs, h => h
  | x :: xs, vs, h => by
    unfold SimL at h ⊢
    obtain ⟨v, vs', e, q, l⟩ := h
    exact ⟨v, vs', e, SimV.ex0 ex q, SimL.ex0 ex l⟩
end
theorem SimL.nil : SimL K ex rho H [] [] := by unfold SimL; rfl
theorem SimL.cons {x : MV} {v : V} {xs : List MV} {vs : List V} (h : SimV K ex rho H x v) (l : SimL K ex rho H xs vs) : SimL K ex rho H (x :: xs) (v :: vs) := by
  unfold SimL; exact ⟨v, vs, rfl, h, l⟩
theorem SimL.inv_cons {x : MV} {xs : List MV} {vs : List V} (h : SimL K ex rho H (x :: xs) vs) : ∃ v vs', vs = v :: vs' ∧ SimV K ex rho H x v ∧ SimL K ex rho H xs vs' := by
  unfold SimL at h; exact h
theorem SimL.inv_nil {vs : List V} (h : SimL K ex rho H [] vs) : vs = [] := by
  unfold SimL at h; exact h
theorem SimL.length : ∀ {xs : List MV} {vs : List V}, SimL K ex rho H xs vs → xs.length = vs.length
  | [], vs, h => by rw [SimL.inv_nil h] <;> rfl
  | x :: xs, vs, h => by
    obtain ⟨v, vs', e, _, l⟩ := SimL.inv_cons h
    rw [e, List.length_cons, List.length_cons, SimL.length l]
theorem SimL.get : ∀ {xs : List MV} {vs : List V} {i : Nat} {x : MV}, SimL K ex rho H xs vs → xs[i]? = some x → ∃ v, vs[i]? = some v ∧ SimV K ex rho H x v
  | [], _, i, x, _, e => by simp at e
  | y :: ys, vs, i, x, h, e => by
    obtain ⟨v, vs', rfl, q, l⟩ := SimL.inv_cons h
    cases i with
    | zero =>
      have e' : y = x := by simpa using e
      exact ⟨v, rfl, e' ▸ q⟩
    | succ i =>
      obtain ⟨w, h1, h2⟩ := SimL.get (i := i) l (by simpa using e)
      exact ⟨w, by simpa using h1, h2⟩
theorem SimL.set {x : MV} {v : V} (q : SimV K ex rho H x v) : ∀ {xs : List MV} {vs : List V} (i : Nat), SimL K ex rho H xs vs → SimL K ex rho H (xs.set i x) (vs.set i v)
  | [], vs, i, h => by rw [SimL.inv_nil h]; exact SimL.nil
  | y :: ys, vs, i, h => by
    obtain ⟨w, vs', rfl, q', l⟩ := SimL.inv_cons h
    cases i with
    | zero => exact SimL.cons q l
    | succ i => exact SimL.cons q' (SimL.set q i l)
theorem SimL.append : ∀ {xs ys : List MV} {vs ws : List V}, SimL K ex rho H xs vs → SimL K ex rho H ys ws → SimL K ex rho H (xs ++ ys) (vs ++ ws)
  | [], ys, vs, ws, h, h2 => by rw [SimL.inv_nil h]; exact h2
  | x :: xs, ys, vs, ws, h, h2 => by
    obtain ⟨w, vs', rfl, q', l⟩ := SimL.inv_cons h
    exact SimL.cons q' (SimL.append l h2)
theorem SimL.take : ∀ {xs : List MV} {vs : List V} (n : Nat), SimL K ex rho H xs vs → SimL K ex rho H (xs.take n) (vs.take n)
  | xs, vs, 0, h => SimL.nil
  | [], vs, n + 1, h => by rw [SimL.inv_nil h]; exact SimL.nil
  | x :: xs, vs, n + 1, h => by
    obtain ⟨w, vs', rfl, q', l⟩ := SimL.inv_cons h
    exact SimL.cons q' (SimL.take n l)
theorem SimL.drop : ∀ {xs : List MV} {vs : List V} (n : Nat), SimL K ex rho H xs vs → SimL K ex rho H (xs.drop n) (vs.drop n)
  | xs, vs, 0, h => h
  | [], vs, n + 1, h => by rw [SimL.inv_nil h]; exact SimL.nil
  | x :: xs, vs, n + 1, h => by
    obtain ⟨w, vs', rfl, q', l⟩ := SimL.inv_cons h
    exact SimL.drop n l
theorem SimL.reverse {xs : List MV} {vs : List V} (h : SimL K ex rho H xs vs) : SimL K ex rho H xs.reverse vs.reverse := by
  induction xs generalizing vs with
  | nil => rw [SimL.inv_nil h]; exact SimL.nil
  | cons x xs ih =>
    obtain ⟨w, vs', rfl, q', l⟩ := SimL.inv_cons h
    rw [List.reverse_cons, List.reverse_cons]
    exact SimL.append (ih l) (SimL.cons q' SimL.nil)
theorem SimL.ints (ns : List Int) : SimL K ex rho H (ns.map MV.int) (ns.map V.int) := by
  induction ns with
  | nil => exact SimL.nil
  | cons n ns ih => exact SimL.cons (by unfold SimV; rfl) ih
end

/-! ### dicts, fields -/
abbrev SimP (K : PySem.W.Frag) (ex : ExH) (rho : Rho) (H : Hp) {α : Type} : List (α × MV) → List (α × V) → Prop := Paired fun p q => p.1 = q.1 ∧ SimV K ex rho H p.2 q.2
section
variable {K : PySem.W.Frag} {ex : ExH} {rho rho' : Rho} {H H' : Hp} {α : Type}
theorem SimP.mono (hs : Stay H H') (hr : Sub rho rho') {xs : List (α × MV)} {vs : List (α × V)} (h : SimP K ex rho H xs vs) : SimP K ex rho' H' xs vs :=
  Paired.mapP h fun _ _ q => ⟨q.1, q.2.mono hs hr⟩
theorem SimP.monoT (hs : StayT H H') (hr : Sub rho rho') {xs : List (α × MV)} {vs : List (α × V)} (h : SimP K ex rho H xs vs) : SimP K ex rho' H' xs vs :=
  Paired.mapP h fun _ _ q => ⟨q.1, q.2.monoT hs hr⟩
theorem SimP.length {xs : List (α × MV)} {vs : List (α × V)} (h : SimP K ex rho H xs vs) : xs.length = vs.length := Paired.length h
theorem SimP.snoc : ∀ {xs : List (α × MV)} {vs : List (α × V)} {k : α} {x : MV} {v : V}, SimP K ex rho H xs vs → SimV K ex rho H x v → SimP K ex rho H (xs ++ [(k, x)]) (vs ++ [(k, v)])
  | _, _, k, x, v, .nil, q => .cons ⟨rfl, q⟩ .nil
  | _, _, k, x, v, .cons r t, q => .cons r (SimP.snoc t q)
variable [DecidableEq α]
theorem SimK.find : ∀ {xs : List (Key × MV)} {vs : List (Key × V)} (k : Key), SimP K ex rho H xs vs →
    (MP.getK xs k = none ∧ valV vs k = none) ∨ ∃ x v, MP.getK xs k = some x ∧ valV vs k = some v ∧ SimV K ex rho H x v
  | _, _, k, .nil => .inl ⟨rfl, rfl⟩
  | p :: ps, q :: qs, k, .cons r t => by
    by_cases e : q.1 = k
    · right
      refine ⟨p.2, q.2, ?_, valV_pos e, r.2⟩
      have e' : p.1 = k := r.1.trans e
      simp [MP.getK, List.find?_cons, e']
    · have e' : ¬ p.1 = k := fun z => e (r.1.symm.trans z)
      have h1 : MP.getK (p :: ps) k = MP.getK ps k := by simp [MP.getK, List.find?_cons, e']
      rw [h1, valV_neg e]
      exact SimK.find k t
theorem SimK.any : ∀ {xs : List (Key × MV)} {vs : List (Key × V)} (k : Key), SimP K ex rho H xs vs → (xs.any fun kv => decide (kv.1 = k)) = (vs.any fun kv => decide (kv.1 = k))
  | _, _, k, .nil => rfl
  | p :: ps, q :: qs, k, .cons r t => by
    rw [List.any_cons, List.any_cons, SimK.any k t, r.1]
theorem SimK.repl {x : MV} {v : V} (k : Key) (q : SimV K ex rho H x v) : ∀ {xs : List (Key × MV)} {vs : List (Key × V)}, SimP K ex rho H xs vs →
    SimP K ex rho H (xs.map fun kv => if kv.1 = k then (kv.1, x) else kv) (vs.map fun kv => if kv.1 = k then (kv.1, v) else kv)
  | _, _, .nil => .nil
  | p :: ps, z :: zs, .cons r t => by
    rw [List.map_cons, List.map_cons]
    refine .cons ?_ (SimK.repl k q t)
    by_cases e : z.1 = k
    · rw [if_pos (r.1.trans e), if_pos e]; exact ⟨r.1, q⟩
    · rw [if_neg (fun y => e (r.1.symm.trans y)), if_neg e]; exact r
theorem SimK.put {xs : List (Key × MV)} {vs : List (Key × V)} {x : MV} {v : V} (k : Key) (h : SimP K ex rho H xs vs) (q : SimV K ex rho H x v) : SimP K ex rho H (MP.setK xs k x) (putK vs k v) := by
  unfold MP.setK putK
  rw [SimK.any k h]
  split
  · exact SimK.repl k q h
  · exact h.snoc q
theorem SimK.drop (k : Key) : ∀ {xs : List (Key × MV)} {vs : List (Key × V)}, SimP K ex rho H xs vs → SimP K ex rho H (MP.delK xs k) (dropK vs k)
  | _, _, .nil => .nil
  | p :: ps, z :: zs, .cons r t => by
    have ih := SimK.drop k t
    unfold MP.delK dropK at ih ⊢
    rw [List.filter_cons, List.filter_cons]
    by_cases e : z.1 = k
    · have e' : p.1 = k := r.1.trans e
      simp only [e, e', ne_eq, not_true_eq_false, decide_false, Bool.false_eq_true, if_false]
      exact ih
    · have e' : ¬ p.1 = k := fun y => e (r.1.symm.trans y)
      simp only [e, e', ne_eq, not_false_eq_true, decide_true, if_true]
      exact .cons r ih
theorem SimF.find : ∀ {xs : List (Str × MV)} {vs : List (Str × V)} (k : Str), SimP K ex rho H xs vs →
    (MP.getF xs k = none ∧ vs.lookup k = none) ∨ ∃ x v, MP.getF xs k = some x ∧ vs.lookup k = some v ∧ SimV K ex rho H x v
  | _, _, k, .nil => .inl ⟨rfl, rfl⟩
  | p :: ps, q :: qs, k, .cons r t => by
    obtain ⟨p1, p2⟩ := p
    obtain ⟨q1, q2⟩ := q
    have e0 : p1 = q1 := r.1
    subst e0
    by_cases e : (k == p1) = true
    · right
      refine ⟨p2, q2, ?_, ?_, r.2⟩
      · unfold MP.getF; rw [List.lookup_cons, e]
      · rw [List.lookup_cons, e]
    · have e' : (k == p1) = false := by simpa using e
      have h1 : MP.getF ((p1, p2) :: ps) k = MP.getF ps k := by unfold MP.getF; rw [List.lookup_cons, e']
      have h2 : List.lookup k ((p1, q2) :: qs) = List.lookup k qs := by rw [List.lookup_cons, e']
      rw [h1, h2]
      exact SimF.find k t
theorem SimF.put {x : MV} {v : V} (k : Str) (q : SimV K ex rho H x v) : ∀ {xs : List (Str × MV)} {vs : List (Str × V)}, SimP K ex rho H xs vs → SimP K ex rho H (MP.setF k x xs) (putF k v vs)
  | _, _, .nil => .cons ⟨rfl, q⟩ .nil
  | p :: ps, z :: zs, .cons r t => by
    obtain ⟨p1, p2⟩ := p
    obtain ⟨z1, z2⟩ := z
    have e0 : p1 = z1 := r.1
    subst e0
    have h1 : MP.setF k x ((p1, p2) :: ps) = if p1 = k then (p1, x) :: ps else (p1, p2) :: MP.setF k x ps := rfl
    have h2 : putF k v ((p1, z2) :: zs) = if p1 = k then (p1, v) :: zs else (p1, z2) :: putF k v zs := rfl
    rw [h1, h2]
    by_cases e : p1 = k
    · rw [if_pos e, if_pos e]; exact .cons ⟨rfl, q⟩ t
    · rw [if_neg e, if_neg e]; exact .cons r (SimF.put k q t)
end

/-! ### the memory -/
/-- the object of MP stands at a -/
def SimO (K : PySem.W.Frag) (mg : Str → Option Value) (rho : Rho) (H : Hp) (a : Addr) : MO → Prop
  | .lst xs => ∃ vs, H a = some (.lst vs) ∧ SimL K none rho H xs vs
  | .rol xs => ∃ vs, ((∃ o, H a = some (.frz o (.lst vs))) ∨ (∃ (o : Obj) (its : Array Value) (n : Nat), K.lookup a = some o ∧ o.cls = .type "list" ∧ o.dict = none ∧ o.data = .seq its n ∧ its.size ≤ sizeLine ∧ Vals vs its.toList)) ∧ SimL K none rho H xs vs
  | .dct false kvs => ∃ vs, H a = some (.dK vs) ∧ SimP K none rho H kvs vs
  | .dct true kvs => ∃ o vs, H a = some (.frz o (.dK vs)) ∧ SimP K none rho H kvs vs
  | .ins C fs => ∃ Ca dx vs, mg C = some (.ref Ca) ∧ H a = some (.ins Ca dx vs) ∧ SimP K none rho H fs vs
def isRol : MO → Bool
  | .rol _ => true
  | _ => false
structure SimM (K : PySem.W.Frag) (mg : Str → Option Value) (rho : Rho) (H : Hp) (m : Mem) : Prop where
  len : rho.length = m.length
  inj : ∀ (i j : Nat) (a : Addr) (o p : MO), rho[i]? = some a → rho[j]? = some a → m[i]? = some o → m[j]? = some p → isRol o = false → isRol p = false → i = j
  at_ : ∀ (n : Nat) (o : MO), m[n]? = some o → ∃ a, rho[n]? = some a ∧ SimO K mg rho H a o
section
variable {K : PySem.W.Frag} {mg : Str → Option Value} {rho rho' : Rho} {H H' : Hp} {m : Mem}
theorem SimO.monoT (hs : StayT H H') (hr : Sub rho rho') {a : Addr} {o : MO} (h : SimO K mg rho H a o) (e : ∀ u, H a = some u → H' a = some u) : SimO K mg rho' H' a o := by
  cases o with
  | lst xs => obtain ⟨vs, h1, h2⟩ := h; exact ⟨vs, e _ h1, h2.monoT hs hr⟩
  | rol xs =>
    obtain ⟨vs, h1, h2⟩ := h
    refine ⟨vs, ?_, h2.monoT hs hr⟩
    rcases h1 with ⟨o, h1⟩ | h1
    · exact .inl ⟨o, e _ h1⟩
    · exact .inr h1
  | dct lk kvs =>
    cases lk with
    | false => obtain ⟨vs, h1, h2⟩ := h; exact ⟨vs, e _ h1, h2.monoT hs hr⟩
    | true => obtain ⟨o, vs, h1, h2⟩ := h; exact ⟨o, vs, e _ h1, h2.monoT hs hr⟩
  | ins C fs => obtain ⟨Ca, dx, vs, h0, h1, h2⟩ := h; exact ⟨Ca, dx, vs, h0, e _ h1, h2.monoT hs hr⟩
theorem SimO.mono (hs : Stay H H') (hr : Sub rho rho') {a : Addr} {o : MO} (h : SimO K mg rho H a o) (e : ∀ u, H a = some u → H' a = some u) : SimO K mg rho' H' a o := h.monoT hs.t hr e
/-- it stands in the heap, unless it is the script -/
theorem SimO.there {a : Addr} {o : MO} (h : SimO K mg rho H a o) (hn : isRol o = false) : ∃ u, H a = some u := by
  cases o with
  | lst xs => obtain ⟨vs, h1, h2⟩ := h; exact ⟨_, h1⟩
  | rol xs => cases hn
  | dct lk kvs =>
    cases lk with
    | false => obtain ⟨vs, h1, h2⟩ := h; exact ⟨_, h1⟩
    | true => obtain ⟨o, vs, h1, h2⟩ := h; exact ⟨_, h1⟩
  | ins C fs => obtain ⟨Ca, dx, vs, h0, h1, h2⟩ := h; exact ⟨_, h1⟩
theorem SimM.get (S : SimM K mg rho H m) {n : Nat} {a : Addr} {o : MO} (h : rho[n]? = some a) (e : m[n]? = some o) : SimO K mg rho H a o := by
  obtain ⟨b, hb, q⟩ := S.at_ n o e
  rw [h] at hb; cases hb; exact q
/-- something that is not of the memory is new in the heap -/
theorem SimM.fresh (S : SimM K mg rho H m) {p : Addr} {u : HO} (h : H p = none) : SimM K mg rho (upd H p u) m := by
  refine ⟨S.len, S.inj, fun n o e => ?_⟩
  obtain ⟨a, h1, h2⟩ := S.at_ n o e
  exact ⟨a, h1, h2.mono (Stay.new h) (Sub.refl _) fun v hv => by rw [upd_ne (ne_of_none hv h)]; exact hv⟩
/-- a new object -/
theorem SimM.push (S : SimM K mg rho H m) {p : Addr} {u : HO} {o : MO} (h : H p = none) (hn : isRol o = false) (q : SimO K mg (rho ++ [p]) (upd H p u) p o) : SimM K mg (rho ++ [p]) (upd H p u) (m ++ [o]) := by
  have hlen := S.len
  have old : ∀ i, i < m.length → (rho ++ [p])[i]? = rho[i]? := fun i hi => by rw [List.getElem?_append_left (by omega)]
  have oldm : ∀ i, i < m.length → (m ++ [o])[i]? = m[i]? := fun i hi => by rw [List.getElem?_append_left hi]
  have newr : (rho ++ [p])[m.length]? = some p := by rw [← hlen]; simp
  have newm : (m ++ [o])[m.length]? = some o := by simp
  have lt : ∀ {i : Nat} {x : MO}, (m ++ [o])[i]? = some x → i < m.length ∨ i = m.length := fun {i x} e => by
    have := (List.getElem?_eq_some_iff.mp e).1
    rw [List.length_append, List.length_singleton] at this
    omega
  have notp : ∀ {i : Nat} {x : MO}, i < m.length → m[i]? = some x → isRol x = false → rho[i]? ≠ some p := fun {i x} hi e hx z => by
    obtain ⟨u', hu⟩ := (S.get z e).there hx
    rw [h] at hu; cases hu
  refine ⟨by rw [List.length_append, List.length_append, hlen]; rfl, fun i j a x y h1 h2 h3 h4 h5 h6 => ?_, fun n x e => ?_⟩
  · rcases lt h3 with hi | hi
    · rw [old i hi] at h1
      rw [oldm i hi] at h3
      rcases lt h4 with hj | hj
      · rw [old j hj] at h2
        rw [oldm j hj] at h4
        exact S.inj i j a x y h1 h2 h3 h4 h5 h6
      · subst hj
        rw [newr] at h2; cases h2
        exact absurd h1 (notp hi h3 h5)
    · subst hi
      rw [newr] at h1; cases h1
      rcases lt h4 with hj | hj
      · rw [old j hj] at h2
        rw [oldm j hj] at h4
        exact absurd h2 (notp hj h4 h6)
      · exact hj.symm
  · rcases lt e with hi | hi
    · rw [oldm n hi] at e
      obtain ⟨a, h1, h2⟩ := S.at_ n x e
      exact ⟨a, by rw [old n hi]; exact h1, h2.mono (Stay.new h) (Sub.snoc _ _) fun v hv => by rw [upd_ne (ne_of_none hv h)]; exact hv⟩
    · subst hi
      rw [newm] at e; cases e
      exact ⟨p, newr, q⟩
/-- an object is written -/
theorem SimM.write (S : SimM K mg rho H m) {n : Nat} {p : Addr} {u v : HO} {o o' : MO} (hp : rho[n]? = some p) (ho : m[n]? = some o) (hu : H p = some u) (h1 : ∀ vs, u ≠ .tup vs) (h2 : ∀ b w, u ≠ .frz b w) (hn : isRol o = false) (hn' : isRol o' = false)
    (q : SimO K mg rho (upd H p v) p o') : SimM K mg rho (upd H p v) (m.set n o') := by
  have hl : n < m.length := (List.getElem?_eq_some_iff.mp ho).1
  refine ⟨by rw [List.length_set]; exact S.len, fun i j a x y e1 e2 e3 e4 e5 e6 => ?_, fun i x e => ?_⟩
  · have old : ∀ {i : Nat} {x : MO}, (m.set n o')[i]? = some x → isRol x = false → ∃ z, m[i]? = some z ∧ isRol z = false := fun {i x} e hx => by
      by_cases hi : n = i
      · subst hi; exact ⟨o, ho, hn⟩
      · rw [List.getElem?_set_ne hi] at e; exact ⟨x, e, hx⟩
    obtain ⟨z1, a1, b1⟩ := old e3 e5
    obtain ⟨z2, a2, b2⟩ := old e4 e6
    exact S.inj i j a z1 z2 e1 e2 a1 a2 b1 b2
  · by_cases hi : n = i
    · subst hi
      rw [List.getElem?_set_self hl] at e; cases e
      exact ⟨p, hp, q⟩
    · rw [List.getElem?_set_ne hi] at e
      obtain ⟨a, e1, e2⟩ := S.at_ i x e
      have hs : Stay H (upd H p v) := Stay.write hu h1 h2
      cases hr : isRol x with
      | false =>
        have hap : a ≠ p := fun z => by
          subst z
          exact hi (S.inj n i a o x hp e1 ho e hn hr)
        exact ⟨a, e1, e2.mono hs (Sub.refl _) fun w hw => by rw [upd_ne hap]; exact hw⟩
      | true =>
        cases x with
        | rol xs =>
          obtain ⟨vs, h3, h4⟩ := e2
          refine ⟨a, e1, vs, ?_, h4.mono hs (Sub.refl _)⟩
          rcases h3 with ⟨b, h3⟩ | h3
          · exact .inl ⟨b, hs.frz _ _ _ h3⟩
          · exact .inr h3
        | lst xs => cases hr
        | dct lk kvs => cases hr
        | ins C fs => cases hr
/-- a lock is taken away -/
theorem SimM.unlock (S : SimM K mg rho H m) {n : Nat} {d : Addr} {o : Obj} {kvs : List (Key × MV)} {vs : List (Key × V)} (hp : rho[n]? = some d) (ho : m[n]? = some (.dct true kvs)) (hu : H d = some (.frz o (.dK vs))) :
    StayT H (upd H d (.dK vs)) ∧ SimM K mg rho (upd H d (.dK vs)) (m.set n (.dct false kvs)) := by
  have hs : StayT H (upd H d (.dK vs)) := ⟨fun a xs e => by rw [upd_ne (ne_of e hu (by intro z; cases z))]; exact e, fun a b xs e => by rw [upd_ne (ne_of e hu (by intro z; cases z))]; exact e, fun a b xs e => by rw [upd_ne (ne_of e hu (by intro z; cases z))]; exact e⟩
  have hl : n < m.length := (List.getElem?_eq_some_iff.mp ho).1
  obtain ⟨o1, vs1, e1, l1⟩ := S.get hp ho
  rw [hu] at e1; cases e1
  refine ⟨hs, by rw [List.length_set]; exact S.len, fun i j a x y e1 e2 e3 e4 e5 e6 => ?_, fun i x e => ?_⟩
  · have old : ∀ {i : Nat} {x : MO}, (m.set n (.dct false kvs))[i]? = some x → isRol x = false → ∃ z, m[i]? = some z ∧ isRol z = false := fun {i x} e hx => by
      by_cases hi : n = i
      · subst hi; exact ⟨_, ho, rfl⟩
      · rw [List.getElem?_set_ne hi] at e; exact ⟨x, e, hx⟩
    obtain ⟨z1, a1, b1⟩ := old e3 e5
    obtain ⟨z2, a2, b2⟩ := old e4 e6
    exact S.inj i j a z1 z2 e1 e2 a1 a2 b1 b2
  · by_cases hi : n = i
    · subst hi
      rw [List.getElem?_set_self hl] at e; cases e
      exact ⟨d, hp, vs, upd_same, l1.monoT hs (Sub.refl _)⟩
    · rw [List.getElem?_set_ne hi] at e
      obtain ⟨a, e1, e2⟩ := S.at_ i x e
      cases hr : isRol x with
      | false =>
        have hap : a ≠ d := fun z => by
          subst z
          exact hi (S.inj n i a _ x hp e1 ho e rfl hr)
        exact ⟨a, e1, e2.monoT hs (Sub.refl _) fun w hw => by rw [upd_ne hap]; exact hw⟩
      | true =>
        cases x with
        | rol xs =>
          obtain ⟨ws, h3, h4⟩ := e2
          refine ⟨a, e1, ws, ?_, h4.monoT hs (Sub.refl _)⟩
          rcases h3 with ⟨b, h3⟩ | h3
          · exact .inl ⟨b, hs.flst _ _ _ h3⟩
          · exact .inr h3
        | lst xs => cases hr
        | dct lk kvs => cases hr
        | ins C fs => cases hr
/-- a lock is laid -/
theorem SimM.lock (S : SimM K mg rho H m) {n : Nat} {d : Addr} {o : Obj} {kvs : List (Key × MV)} {vs : List (Key × V)} (hp : rho[n]? = some d) (ho : m[n]? = some (.dct false kvs)) (hu : H d = some (.dK vs)) :
    Stay H (upd H d (.frz o (.dK vs))) ∧ SimM K mg rho (upd H d (.frz o (.dK vs))) (m.set n (.dct true kvs)) := by
  obtain ⟨vs1, e1, l1⟩ := S.get hp ho
  rw [hu] at e1; cases e1
  have hs : Stay H (upd H d (.frz o (.dK vs))) := Stay.write hu (fun _ z => nomatch z) (fun _ _ z => nomatch z)
  exact ⟨hs, S.write hp ho hu (fun _ z => nomatch z) (fun _ _ z => nomatch z) rfl rfl ⟨o, vs, upd_same, l1.mono hs (Sub.refl _)⟩⟩
end
end ML

/-! MLinkB: the judgements, names, constants, operators. -/
namespace ML
open PySem PySem.Spec PyProof.Rows L2
open MP (MV MO Mem Fr ME MA MT MS MG MI MFn Res SR)

/-- the frame -/
structure SimS (K : PySem.W.Frag) (ex : ExH) (rho : Rho) (H : Hp) (fr : Fr) (σ : L2.St) : Prop where
  len : fr.length = σ.length
  at_ : ∀ (i : Nat) (x : MV), fr[i]? = some (some x) → ∃ v, σ[i]? = some (some v) ∧ SimV K ex rho H x v
theorem SimS.mono {K : PySem.W.Frag} {ex : ExH} {rho rho' : Rho} {H H' : Hp} {fr : Fr} {σ : L2.St} (S : SimS K ex rho H fr σ) (hs : Stay H H') (hr : Sub rho rho') : SimS K ex rho' H' fr σ :=
  ⟨S.len, fun i x e => let ⟨v, h1, h2⟩ := S.at_ i x e; ⟨v, h1, h2.mono hs hr⟩⟩
theorem SimS.monoT {K : PySem.W.Frag} {ex : ExH} {rho rho' : Rho} {H H' : Hp} {fr : Fr} {σ : L2.St} (S : SimS K ex rho H fr σ) (hs : StayT H H') (hr : Sub rho rho') : SimS K ex rho' H' fr σ :=
  ⟨S.len, fun i x e => let ⟨v, h1, h2⟩ := S.at_ i x e; ⟨v, h1, h2.monoT hs hr⟩⟩
theorem SimS.set {K : PySem.W.Frag} {ex : ExH} {rho : Rho} {H : Hp} {fr : Fr} {σ : L2.St} (S : SimS K ex rho H fr σ) {x : MV} {v : V} (i : Nat) (q : SimV K ex rho H x v) : SimS K ex rho H (fr.set i (some x)) (σ.set i (some v)) := by
  refine ⟨by rw [List.length_set, List.length_set]; exact S.len, fun j y e => ?_⟩
  by_cases hij : i = j
  · subst hij
    have hl : i < fr.length := by
      have := (List.getElem?_eq_some_iff.mp e).1
      rw [List.length_set] at this
      exact this
    rw [List.getElem?_set_self hl] at e; cases e
    exact ⟨v, by rw [List.getElem?_set_self (by rw [← S.len]; exact hl)], q⟩
  · rw [List.getElem?_set_ne hij] at e
    obtain ⟨w, h1, h2⟩ := S.at_ j y e
    exact ⟨w, by rw [List.getElem?_set_ne hij]; exact h1, h2⟩
theorem SimS.unset {K : PySem.W.Frag} {ex : ExH} {rho : Rho} {H : Hp} {fr : Fr} {σ : L2.St} (S : SimS K ex rho H fr σ) (i : Nat) : SimS K ex rho H (fr.set i none) (σ.set i none) := by
  refine ⟨by rw [List.length_set, List.length_set]; exact S.len, fun j y e => ?_⟩
  by_cases hij : i = j
  · subst hij
    have hl : i < fr.length := by
      have := (List.getElem?_eq_some_iff.mp e).1
      rw [List.length_set] at this
      exact this
    rw [List.getElem?_set_self hl] at e; cases e
  · rw [List.getElem?_set_ne hij] at e
    obtain ⟨w, h1, h2⟩ := S.at_ j y e
    exact ⟨w, by rw [List.getElem?_set_ne hij]; exact h1, h2⟩

section
variable (K : PySem.W.Frag) (mg : Str → Option Value) (ex : ExH) (rho : Rho) (H : Hp)
/-- what follows a value -/
def okP (Q : V → Hp → Prop) : MV → Mem → Prop := fun x m => ∀ rho' v H', Sub rho rho' → Stay H H' → SimV K ex rho' H' x v → SimM K mg rho' H' m → Q v H'
def okL (Q : List V → Hp → Prop) : List MV → Mem → Prop := fun xs m => ∀ rho' vs H', Sub rho rho' → Stay H H' → SimL K ex rho' H' xs vs → SimM K mg rho' H' m → Q vs H'
def okB (Q : Bool → Hp → Prop) : Bool → Mem → Prop := fun b m => ∀ rho' H', Sub rho rho' → Stay H H' → SimM K mg rho' H' m → Q b H'
/-- what follows an exception -/
def exP (σ : L2.St) (W : WX) : Str → Mem → Prop := fun c m => ∀ rho' C H', Sub rho rho' → Stay H H' → mg c = some (.ref C) → SimM K mg rho' H' m → W (.ref C) none σ H'
/-- a statement's ends -/
def post (D : Ends) (W : WX) : MP.SR.Post where
  nx := fun fr m => ∀ rho' σ' H', Sub rho rho' → Stay H H' → SimS K ex rho' H' fr σ' → SimM K mg rho' H' m → D.nx σ' H'
  rt := fun x m => ∀ rho' v H', Sub rho rho' → Stay H H' → SimV K ex rho' H' x v → SimM K mg rho' H' m → D.rt v H'
  bk := fun fr m => ∀ rho' σ' H', Sub rho rho' → Stay H H' → SimS K ex rho' H' fr σ' → SimM K mg rho' H' m → D.bk σ' H'
  ct := fun fr m => ∀ rho' σ' H', Sub rho rho' → Stay H H' → SimS K ex rho' H' fr σ' → SimM K mg rho' H' m → D.ct σ' H'
  ex := fun c fr m => ∀ rho' C σ' H', Sub rho rho' → Stay H H' → mg c = some (.ref C) → SimS K ex rho' H' fr σ' → SimM K mg rho' H' m → W (.ref C) none σ' H'
end
section
variable {K : PySem.W.Frag} {mg : Str → Option Value} {ex : ExH} {rho r1 : Rho} {H H1 : Hp}
theorem okP.trans {Q : V → Hp → Prop} {x : MV} {m : Mem} (h : okP K mg ex rho H Q x m) (hr : Sub rho r1) (hs : Stay H H1) : okP K mg ex r1 H1 Q x m :=
  fun r2 v H2 a b c d => h r2 v H2 (hr.trans a) (hs.trans b) c d
theorem okL.trans {Q : List V → Hp → Prop} {x : List MV} {m : Mem} (h : okL K mg ex rho H Q x m) (hr : Sub rho r1) (hs : Stay H H1) : okL K mg ex r1 H1 Q x m :=
  fun r2 v H2 a b c d => h r2 v H2 (hr.trans a) (hs.trans b) c d
theorem okB.trans {Q : Bool → Hp → Prop} {x : Bool} {m : Mem} (h : okB K mg rho H Q x m) (hr : Sub rho r1) (hs : Stay H H1) : okB K mg r1 H1 Q x m :=
  fun r2 H2 a b c => h r2 H2 (hr.trans a) (hs.trans b) c
theorem exP.trans {σ : L2.St} {W : WX} {c : Str} {m : Mem} (h : exP K mg rho H σ W c m) (hr : Sub rho r1) (hs : Stay H H1) : exP K mg r1 H1 σ W c m :=
  fun r2 C H2 a b c d => h r2 C H2 (hr.trans a) (hs.trans b) c d
theorem post.trans {D : Ends} {W : WX} {r : SR} (h : r.wp (post K mg ex rho H D W)) (hr : Sub rho r1) (hs : Stay H H1) : r.wp (post K mg ex r1 H1 D W) :=
  MP.SR.wp_mono h (fun _ _ h r2 s2 H2 a b c d => h r2 s2 H2 (hr.trans a) (hs.trans b) c d) (fun _ _ h r2 s2 H2 a b c d => h r2 s2 H2 (hr.trans a) (hs.trans b) c d)
    (fun _ _ h r2 s2 H2 a b c d => h r2 s2 H2 (hr.trans a) (hs.trans b) c d) (fun _ _ h r2 s2 H2 a b c d => h r2 s2 H2 (hr.trans a) (hs.trans b) c d)
    (fun _ _ _ h r2 C s2 H2 a b c d e => h r2 C s2 H2 (hr.trans a) (hs.trans b) c d e)
end

/-! ### judgements: the reading does what the combinator tells -/
def GoodE (X : Cx) (W : WX) (ex : ExH) (t : TE) (m : ME) : Prop := ∀ (rho : Rho) (fr : Fr) (mem : Mem) (σ : L2.St) (H : Hp) (Q : V → Hp → Prop), SimS X.K ex rho H fr σ → SimM X.K X.mg rho H mem →
  (m fr mem).wp (okP X.K X.mg ex rho H Q) (exP X.K X.mg rho H σ W) → t σ H Q
def GoodT (X : Cx) (W : WX) (ex : ExH) (t : TT) (m : MT) : Prop := ∀ (rho : Rho) (fr : Fr) (mem : Mem) (σ : L2.St) (H : Hp) (Q : Bool → Hp → Prop), SimS X.K ex rho H fr σ → SimM X.K X.mg rho H mem →
  (m fr mem).wp (okB X.K X.mg rho H Q) (exP X.K X.mg rho H σ W) → t σ H Q
def GoodA (X : Cx) (W : WX) (ex : ExH) (t : TA) (m : MA) : Prop := ∀ (rho : Rho) (fr : Fr) (mem : Mem) (σ : L2.St) (H : Hp) (Q : List V → Hp → Prop), SimS X.K ex rho H fr σ → SimM X.K X.mg rho H mem →
  (m fr mem).wp (okL X.K X.mg ex rho H Q) (exP X.K X.mg rho H σ W) → t σ H Q
def GoodS (X : Cx) (W : WX) (ex : ExH) (t : TS) (m : MS) : Prop := ∀ (rho : Rho) (fr : Fr) (mem : Mem) (σ : L2.St) (H : Hp) (D : Ends), SimS X.K ex rho H fr σ → SimM X.K X.mg rho H mem →
  (m fr mem).wp (post X.K X.mg ex rho H D W) → t D σ H
def GoodG (X : Cx) (W : WX) (ex : ExH) (t : TG) (m : MG) : Prop := ∀ (rho : Rho) (x : MV) (v : V) (fr : Fr) (mem : Mem) (σ : L2.St) (H : Hp) (Q : L2.St → Hp → Prop) (D : Ends), SimS X.K ex rho H fr σ → SimM X.K X.mg rho H mem → SimV X.K ex rho H x v →
  (m x fr mem).wp (post X.K X.mg ex rho H { D with nx := Q } W) → t v σ H Q
def LE (X : Cx) (W : WX) (ex : ExH) (e : Expr) (m : ME) : Prop := ∃ t, PE X e t ∧ GoodE X W ex t m
def LT (X : Cx) (W : WX) (ex : ExH) (e : Expr) (m : MT) : Prop := ∃ t, PT X e t ∧ GoodT X W ex t m
def LW (X : Cx) (W : WX) (ex : ExH) (e : Expr) (m : MT) : Prop := ∃ t, PW X e t ∧ GoodT X W ex t m
def LA (X : Cx) (W : WX) (ex : ExH) (es : List Expr) (m : MA) : Prop := ∃ t, PA X es t ∧ GoodA X W ex t m
def LS (X : Cx) (W : WX) (ex : ExH) (s : Stmt) (m : MS) : Prop := ∃ t, PS X s t ∧ GoodS X W ex t m
def LSs (X : Cx) (W : WX) (ex : ExH) (s : List Stmt) (m : MS) : Prop := ∃ t, PSs X s t ∧ GoodS X W ex t m
def LG (X : Cx) (W : WX) (ex : ExH) (e : Expr) (m : MG) : Prop := ∃ t, PG X e t ∧ GoodG X W ex t m

/-! ### either of two readings -/
section
variable {X : Cx}
theorem PE.or {e : Expr} {t u : TE} (h1 : PE X e t) (h2 : PE X e u) : PE X e (fun σ H Q => t σ H Q ∨ u σ H Q) :=
  ⟨fun pins s σ H Q I h => h.elim (h1.run pins s σ H Q I) (h2.run pins s σ H Q I)⟩
theorem PT.or {e : Expr} {t u : TT} (h1 : PT X e t) (h2 : PT X e u) : PT X e (fun σ H Q => t σ H Q ∨ u σ H Q) :=
  ⟨fun pins s σ H Q I h => h.elim (h1.run pins s σ H Q I) (h2.run pins s σ H Q I)⟩
theorem PS.or {e : Stmt} {t u : TS} (h1 : PS X e t) (h2 : PS X e u) : PS X e (fun D σ H => t D σ H ∨ u D σ H) :=
  ⟨fun pins s σ H Q I h => h.elim (h1.run pins s σ H Q I) (h2.run pins s σ H Q I)⟩
theorem PG.or {e : Expr} {t u : TG} (h1 : PG X e t) (h2 : PG X e u) : PG X e (fun v σ H Q => t v σ H Q ∨ u v σ H Q) :=
  ⟨fun pins s σ H x w Q I r h => h.elim (h1.run pins s σ H x w Q I r) (h2.run pins s σ H x w Q I r)⟩
end

/-! ### names and constants -/
section
variable {X : Cx} {W : WX} {ex : ExH}
/-- what a def's scope tells of its names, once for all: a name, its slot, whether it is stored here -/
structure Nm (X : Cx) (N : List (Str × Nat × Bool)) (G : List Str) : Prop where
  nd : X.N.Nodup
  n : ∀ (j : Nat) (x : Str) (i : Nat) (b : Bool), N[j]? = some (x, i, b) → X.N[i]? = some x ∧ Vis X.env.scope x ∧ (x == ("__debug__" : Str)) = false ∧ (x == ("__classdict__" : Str)) = false
  st : ∀ (j : Nat) (x : Str) (i : Nat), N[j]? = some (x, i, true) → L2.Loc X.env.scope x ∧ (X.fn x = true ∨ X.env.scope.names.lookup x = some .local)
  gl : ∀ (i : Nat) (x : Str), G[i]? = some x → Gl X x ∧ (x == ("__debug__" : Str)) = false ∧ x ≠ "__name__"
theorem Nm.tr {X : Cx} {N : List (Str × Nat × Bool)} {G : List Str} (nm : Nm X N G) (pn : List (Addr × Obj)) (xe : Value → Shared → Prop) : Nm (X.tr pn xe) N G := ⟨nm.nd, nm.n, nm.st, nm.gl⟩
theorem Nm.suite {X : Cx} {N : List (Str × Nat × Bool)} {G : List Str} (nm : Nm X N G) (a : Addr) (pn : List (Addr × Obj)) : Nm (X.suite a pn) N G := ⟨nm.nd, nm.n, nm.st, nm.gl⟩
def nmC (NN : List Str) (N : List (Str × Nat × Bool)) (G : List Str) (fnAll : Bool) (sc : Scope) : Bool :=
  (N.all fun p => decide (NN[p.2.1]? = some p.1) && (match sc.names.lookup p.1 with
    | some .local => true
    | some .cell => !p.2.2 || fnAll
    | some .free => !p.2.2
    | _ => false) && !(p.1 == ("__debug__" : Str)) && !(p.1 == ("__classdict__" : Str))) &&
  (G.all fun x => (match sc.names.lookup x with
    | some .globalImplicit => true
    | _ => false) && !(x == ("__debug__" : Str)) && !(x == ("__name__" : Str)))
theorem nm_of {X : Cx} {NN : List Str} {N : List (Str × Nat × Bool)} {G : List Str} {fnAll : Bool} {sc : Scope} (h : nmC NN N G fnAll sc = true) (hN : X.N = NN) (nd : NN.Nodup) (hs : X.env.scope = sc) (hf : fnAll = true → ∀ x, X.fn x = true) : Nm X N G := by
  unfold nmC at h
  simp only [Bool.and_eq_true, List.all_eq_true, decide_eq_true_eq] at h
  obtain ⟨h1, h2⟩ := h
  subst hs hN
  refine ⟨nd, fun j x i b e => ?_, fun j x i e => ?_, fun i x e => ?_⟩
  · have hm := List.mem_of_getElem? e
    obtain ⟨⟨⟨a1, a2⟩, a3⟩, a4⟩ := h1 _ hm
    refine ⟨a1, ?_, by simpa using a3, by simpa using a4⟩
    unfold Vis
    cases hl : X.env.scope.names.lookup x with
    | none => simp [hl] at a2
    | some k => cases k <;> simp_all
  · have hm := List.mem_of_getElem? e
    obtain ⟨⟨⟨a1, a2⟩, a3⟩, a4⟩ := h1 _ hm
    unfold L2.Loc
    cases hl : X.env.scope.names.lookup x with
    | none => simp [hl] at a2
    | some k => cases k <;> simp_all
  · have hm := List.mem_of_getElem? e
    obtain ⟨⟨a1, a2⟩, a3⟩ := h2 _ hm
    refine ⟨?_, by simpa using a2, by simpa using a3⟩
    unfold Gl Env.kindOf
    cases hl : X.env.scope.names.lookup x with
    | none => simp [hl] at a1
    | some k => cases k <;> simp_all
theorem le_var {N : List (Str × Nat × Bool)} {G : List Str} (nm : Nm X N G) (j : Nat) {i : Nat} {b : Bool} {x : Str} {pos : Pos} (hx : N[j]? = some (x, i, b) := by rfl) : LE X W ex (.Name x pos) (MP.eVar i) := by
  obtain ⟨h0, h1, h2, h3⟩ := nm.n j x i b hx
  refine ⟨_, pe_var (i := i) h0 h1 h2 h3, fun rho fr mem σ H Q S M h => ?_⟩
  unfold MP.eVar at h
  cases e : fr[i]? with
  | none => rw [e] at h; exact h.elim
  | some o =>
    cases o with
    | none => rw [e] at h; exact h.elim
    | some x =>
      rw [e] at h
      obtain ⟨v, hv, q⟩ := S.at_ i x e
      exact ⟨v, hv, h rho v H (Sub.refl _) (Stay.refl _) q M⟩
theorem good_c {v : V} {x : MV} (h : ∀ rho H, SimV X.K ex rho H x v) : GoodE X W ex (tC v) (MP.eC x) := fun rho fr mem σ H Q S M q =>
  q rho v H (Sub.refl _) (Stay.refl _) (h rho H) M
theorem le_int {i j pos} : LE X W ex (.Constant (.int i) j pos) (MP.eInt i) := ⟨_, pe_int, good_c fun _ _ => by unfold SimV; rfl⟩
theorem le_str {i j pos} : LE X W ex (.Constant (.str i) j pos) (MP.eStr i) := ⟨_, pe_str, good_c fun _ _ => by unfold SimV; rfl⟩
theorem le_bl {i j pos} : LE X W ex (.Constant (.bool i) j pos) (MP.eC (.bl i)) := ⟨_, pe_bl, good_c fun _ _ => by unfold SimV; rfl⟩
theorem le_non {j pos} : LE X W ex (.Constant .none j pos) (MP.eC .non) := ⟨_, pe_non, good_c fun _ _ => by unfold SimV; rfl⟩
/-- a constant of the module -/
structure GConst (K : PySem.W.Frag) (mg : Str → Option Value) (x : Str) (c : MV) : Prop where
  ex : ∃ u v, mg x = some u ∧ RelV v u ∧ ∀ rho H, SimV K none rho H c v
theorem le_glob {N : List (Str × Nat × Bool)} {G : List Str} (nm : Nm X N G) (i : Nat) {x : Str} {pos : Pos} {c : MV} (g : GConst X.K X.mg x c) (hx : G[i]? = some x := by rfl) : LE X W ex (.Name x pos) (MP.eC c) := by
  obtain ⟨u, v, h1, h2, h3⟩ := g.ex
  exact ⟨_, pe_glob (nm.gl i x hx).1 h1 h2 (nm.gl i x hx).2.1, good_c fun rho H => SimV.ex0 ex (h3 rho H)⟩
end

/-! ### one and two values -/
def GoodR1 (X : Cx) (r : V → Hp → (V → Hp → Prop) → Prop) (f : MV → Mem → Res MV) : Prop := ∀ (ex : ExH) (rho : Rho) (mem : Mem) (H : Hp) (x : MV) (v : V) (Q : V → Hp → Prop) (E : Str → Mem → Prop),
  SimV X.K ex rho H x v → SimM X.K X.mg rho H mem → (f x mem).wp (okP X.K X.mg ex rho H Q) (fun _ _ => False) → r v H Q
def GoodR2 (X : Cx) (r : R2) (f : MV → MV → Mem → Res MV) : Prop := ∀ (ex : ExH) (rho : Rho) (mem : Mem) (H : Hp) (x y : MV) (v w : V) (Q : V → Hp → Prop),
  SimV X.K ex rho H x v → SimV X.K ex rho H y w → SimM X.K X.mg rho H mem → (f x y mem).wp (okP X.K X.mg ex rho H Q) (fun _ _ => False) → r v w H Q
/-- an operator raises nothing -/
def NoEx1 (f : MV → Mem → Res MV) : Prop := ∀ x m c m', f x m ≠ .exc c m'
def NoEx2 (f : MV → MV → Mem → Res MV) : Prop := ∀ x y m c m', f x y m ≠ .exc c m'
theorem wp_noex {r : Res MV} {Q : MV → Mem → Prop} {E E' : Str → Mem → Prop} (h : r.wp Q E) (n : ∀ c m, r ≠ .exc c m) : r.wp Q E' := by
  cases r with
  | ok a m => exact h
  | exc c m => exact absurd rfl (n c m)
  | bad => exact h
theorem GoodE.bind2 {X : Cx} {W : WX} {ex : ExH} {ta tb : TE} {ma mb : ME} {r : R2} {f : MV → MV → Mem → Res MV} (ha : GoodE X W ex ta ma) (hb : GoodE X W ex tb mb) (hr : GoodR2 X r f) (hn : NoEx2 f) : GoodE X W ex (L2.tOp r ta tb) (MP.e2 f ma mb) :=
  fun rho fr mem σ H Q S M h => by
    unfold MP.e2 at h
    rw [Res.wp_bind] at h
    refine ha rho fr mem σ H _ S M (Res.wp_mono h (fun x m1 h1 rho1 v H1 s1 t1 q1 M1 => ?_) fun c m1 h1 => h1)
    rw [Res.wp_bind] at h1
    refine hb rho1 fr m1 σ H1 _ (S.mono t1 s1) M1 (Res.wp_mono h1 (fun y m2 h2 rho2 w H2 s2 t2 q2 M2 => ?_) fun c m2 h2 => exP.trans h2 s1 t1)
    exact hr ex rho2 m2 H2 x y v w Q (q1.mono t2 s2) q2 M2 (wp_noex (Res.wp_mono h2 (fun z m3 h3 => okP.trans h3 (s1.trans s2) (t1.trans t2)) fun _ _ h => h) (hn x y m2))
theorem GoodE.bind1 {X : Cx} {W : WX} {ex : ExH} {ta : TE} {ma : ME} {r : V → Hp → (V → Hp → Prop) → Prop} {f : MV → Mem → Res MV} (ha : GoodE X W ex ta ma) (hr : GoodR1 X r f) (hn : NoEx1 f) : GoodE X W ex (tUn r ta) (MP.e1 f ma) :=
  fun rho fr mem σ H Q S M h => by
    unfold MP.e1 at h
    rw [Res.wp_bind] at h
    refine ha rho fr mem σ H _ S M (Res.wp_mono h (fun x m1 h1 rho1 v H1 s1 t1 q1 M1 => ?_) fun c m1 h1 => h1)
    exact hr ex rho1 m1 H1 x v Q (fun _ _ => False) q1 M1 (wp_noex (Res.wp_mono h1 (fun z m3 h3 => okP.trans h3 s1 t1) fun _ _ h => h) (hn x m1))
section
variable {X : Cx} {W : WX} {ex : ExH} {a b c : Expr} {ma mb mc : ME} {pos : Pos}
theorem le_op {op : Operator} {r : R2} {f : MV → MV → Mem → Res MV} (o : OpR X (binaryOp op) r) (g : GoodR2 X r f) (hn : NoEx2 f) (ha : LE X W ex a ma) (hb : LE X W ex b mb) : LE X W ex (.BinOp a op b pos) (MP.e2 f ma mb) := by
  obtain ⟨ta, p1, g1⟩ := ha
  obtain ⟨tb, p2, g2⟩ := hb
  exact ⟨_, pe_op o p1 p2, g1.bind2 g2 g hn⟩
theorem le_un {op : UnaryOp} {r : V → Hp → VK → Prop} {f : MV → Mem → Res MV} (o : UnR X (unaryOp op) r) (g : GoodR1 X r f) (hn : NoEx1 f) (ha : LE X W ex a ma) : LE X W ex (.UnaryOp op a pos) (MP.e1 f ma) := by
  obtain ⟨ta, p1, g1⟩ := ha
  exact ⟨_, pe_un o p1, g1.bind1 g hn⟩
theorem le_cmp {op : CmpOp} {r : R2} {f : MV → MV → Mem → Res MV} (o : OpR X (compareOp op) r) (g : GoodR2 X r f) (hn : NoEx2 f) (ha : LE X W ex a ma) (hb : LE X W ex b mb) (hm : behindInMarks op b = false) : LE X W ex (.Compare a [op] [b] pos) (MP.e2 f ma mb) := by
  obtain ⟨ta, p1, g1⟩ := ha
  obtain ⟨tb, p2, g2⟩ := hb
  exact ⟨_, pe_cmpR o p1 p2 hm, g1.bind2 g2 g hn⟩
theorem good_tB {t : TE} {m : ME} (g : GoodE X W ex t m) : GoodT X W ex (L2.tTest t) (MP.tB m) := fun rho fr mem σ H Q S M h => by
  unfold MP.tB at h
  rw [Res.wp_bind] at h
  refine g rho fr mem σ H _ S M (Res.wp_mono h (fun x m1 h1 rho1 v H1 s1 t1 q1 M1 => ?_) fun c m1 h1 => h1)
  cases x with
  | bl k =>
    unfold SimV at q1
    exact ⟨k, q1, h1 rho1 H1 s1 t1 M1⟩
  | _ => exact h1.elim
theorem lt_cmp {op : CmpOp} {r : R2} {f : MV → MV → Mem → Res MV} (o : OpR X (compareOp op) r) (g : GoodR2 X r f) (hn : NoEx2 f) (ha : LE X W ex a ma) (hb : LE X W ex b mb) (hm : behindInMarks op b = false) : LT X W ex (.Compare a [op] [b] pos) (MP.tB (MP.e2 f ma mb)) := by
  obtain ⟨ta, p1, g1⟩ := ha
  obtain ⟨tb, p2, g2⟩ := hb
  exact ⟨_, pt_cmpR o p1 p2 hm, good_tB (g1.bind2 g2 g hn)⟩
end
/-- the case of a combinator's value -/
theorem okP.at {K : PySem.W.Frag} {mg : Str → Option Value} {ex : ExH} {rho : Rho} {H : Hp} {Q : V → Hp → Prop} {x : MV} {m : Mem} {v : V} (h : okP K mg ex rho H Q x m) (q : SimV K ex rho H x v) (M : SimM K mg rho H m) : Q v H :=
  h rho v H (Sub.refl _) (Stay.refl _) q M
/-- a new object follows -/
theorem okP.new {K : PySem.W.Frag} {mg : Str → Option Value} {ex : ExH} {rho : Rho} {H : Hp} {Q : V → Hp → Prop} {m : Mem} {o : MO} {u : HO} {p : Addr} (h : (MP.new o m).wp (okP K mg ex rho H Q) (fun _ _ => False)) (M : SimM K mg rho H m) (hp : H p = none) (hn : isRol o = false)
    (q : SimO K mg (rho ++ [p]) (upd H p u) p o) : Q (.ref p) (upd H p u) := by
  refine h (rho ++ [p]) (.ref p) (upd H p u) (Sub.snoc _ _) (Stay.new hp) ?_ (M.push hp hn q)
  unfold SimV
  exact ⟨p, by rw [← M.len]; simp, rfl⟩
/-- a new tuple follows -/
theorem okP.newT {K : PySem.W.Frag} {mg : Str → Option Value} {ex : ExH} {rho : Rho} {H : Hp} {Q : V → Hp → Prop} {m : Mem} {xs : List MV} {vs : List V} {p : Addr} {o : Obj} (h : okP K mg ex rho H Q (.tup xs) m) (M : SimM K mg rho H m) (hp : H p = none) (ho : o.dict = none)
    (q : SimL K ex rho H xs vs) : Q (.ref p) (upd H p (.frz o (.tup vs))) := by
  refine h rho (.ref p) (upd H p (.frz o (.tup vs))) (Sub.refl _) (Stay.new hp) ?_ (M.fresh hp)
  unfold SimV
  exact ⟨p, vs, rfl, .inl (.inr ⟨o, upd_same⟩), fun _ => .inl ⟨o, vs, upd_same, ho⟩, q.mono (Stay.new hp) (Sub.refl _)⟩

/-! ### arithmetic -/
/-- two ints, by any condition that the combinator's test gives -/
theorem good_int2 {X : Cx} {C : Int → Int → Prop} {g : Int → Int → Int} {f : MV → MV → Mem → Res MV} (h : ∀ i j m Q, (f (.int i) (.int j) m).wp Q (fun _ _ => False) → C i j ∧ Q (.int (g i j)) m)
    (hb : ∀ x y m Q, (f x y m).wp Q (fun _ _ => False) → ∃ i j, x = .int i ∧ y = .int j) : GoodR2 X (rI C fun i j => .int (g i j)) f := fun ex rho mem H x y v w Q q1 q2 M q => by
  obtain ⟨i, j, rfl, rfl⟩ := hb x y mem _ q
  obtain ⟨h1, h2⟩ := h i j mem _ q
  unfold SimV at q1 q2
  exact ⟨i, j, q1, q2, h1, h2.at (by unfold SimV; rfl) M⟩
theorem good_sub {X : Cx} : GoodR2 X (rI0 fun i j => .int (i - j)) MP.oSub := fun ex rho mem H x y v w Q q1 q2 M q => by
  cases x <;> cases y <;> first | exact q.elim | skip
  unfold SimV at q1 q2
  exact ⟨_, _, q1, q2, okP.at q (by unfold SimV; rfl) M⟩
def CDivA (i j : Int) : Prop := j ≠ 0 ∧ j.natAbs < MP.DIVB
theorem op_fdivA {X : Cx} : OpR X (binaryOp .FloorDiv) (rI CDivA fun i j => .int (i.fdiv j)) := opI fun i j _ _ _ _ _ hc q => by
  refine floordiv_int hc.1 q (.inl (PyProof.noPylong_of_log2 ?_))
  have h : j.natAbs < 2 ^ 8999 := Nat.lt_of_lt_of_le hc.2 (by unfold MP.DIVB; exact Nat.le_refl _)
  have h0 : j.natAbs ≠ 0 := by have := hc.1; omega
  exact Nat.lt_trans ((Nat.log2_lt h0).mpr h) (by decide)
theorem good_div {X : Cx} : GoodR2 X (rI CDivA fun i j => .int (i.fdiv j)) MP.oDiv := fun ex rho mem H x y v w Q q1 q2 M q => by
  cases x <;> cases y <;> first | exact q.elim | skip
  rename_i i j
  unfold SimV at q1 q2
  by_cases hc : j ≠ 0 ∧ j.natAbs < MP.DIVB
  · simp only [MP.oDiv, if_pos hc, Res.wp_ok] at q
    exact ⟨_, _, q1, q2, hc, okP.at q (by unfold SimV; rfl) M⟩
  · simp only [MP.oDiv, if_neg hc, Res.wp_bad] at q
theorem good_mod {X : Cx} : GoodR2 X (rI (fun _ j => j ≠ 0) fun i j => .int (i.fmod j)) MP.oMod := fun ex rho mem H x y v w Q q1 q2 M q => by
  cases x <;> cases y <;> first | exact q.elim | skip
  rename_i i j
  unfold SimV at q1 q2
  by_cases hc : j ≠ 0
  · simp only [MP.oMod, if_pos hc, Res.wp_ok] at q
    exact ⟨_, _, q1, q2, hc, okP.at q (by unfold SimV; rfl) M⟩
  · simp only [MP.oMod, if_neg hc, Res.wp_bad] at q
theorem good_neg {X : Cx} : GoodR1 X (rU fun i => .int (-i)) MP.oNeg := fun ex rho mem H x v Q E q1 M q => by
  cases x <;> first | exact q.elim | skip
  unfold SimV at q1
  exact ⟨_, q1, okP.at q (by unfold SimV; rfl) M⟩
end ML

/-! MLinkEq: a dict is not like None, a truth, a number, a text, a list, a tuple. (Printed by gen_eq.py.) -/
namespace MLE
open PySem PySem.Spec PyProof.Rows PySem.SeqAt
abbrev dob (es : Array DictEntry) (ep : Nat) : Obj := { cls := .type "dict", dict := none, data := .dict es ep, slots := #[] }
def IsDct (h : Heap) (l : Addr) : Prop := ∃ es ep, h.get? l = some (dob es ep)
theorem isDct_of {P : Program} {w : World} {K : Type} [DecidableEq K] {knd : KeyKind P w K} {h : Heap} {a : Addr} {kvs : List (K × Value)} (x : h.DictOf knd a kvs) : IsDct h a := by
  obtain ⟨⟨c, d, dt, sl⟩, es, ep, e, ⟨h1, h2, h3⟩, h4, _⟩ := x
  cases h1; cases h2; cases h3; cases h4
  exact ⟨es, ep, e⟩

theorem dict_eq_declines_none (l : Addr) (es : Array DictEntry) (ep : Nat)  :
    Meets (Builtin.«dict.__eq__» ⟨[.ref l, .none], []⟩) (fun _ R s => s.heap.get? l = some (dob es ep) ∧ R (.ok (.ret .notImplemented)) s) :=
  .of_wp fun prog w A R s h => by obtain ⟨hp, g, d, tk, os⟩ := s; obtain ⟨hl, h⟩ := h; have f1 := F.sub_NoneType_dict; wp_walk using wpAny_loadPart' hl; exact ⟨_, rfl, h⟩
theorem dict_eq_declines_bool (l : Addr) (es : Array DictEntry) (ep : Nat) (b : Bool) :
    Meets (Builtin.«dict.__eq__» ⟨[.ref l, .bool b], []⟩) (fun _ R s => s.heap.get? l = some (dob es ep) ∧ R (.ok (.ret .notImplemented)) s) :=
  .of_wp fun prog w A R s h => by obtain ⟨hp, g, d, tk, os⟩ := s; obtain ⟨hl, h⟩ := h; have f1 := F.sub_bool_dict; wp_walk using wpAny_loadPart' hl; exact ⟨_, rfl, h⟩
theorem dict_eq_declines_int (l : Addr) (es : Array DictEntry) (ep : Nat) (b : Int) (u : Tok) :
    Meets (Builtin.«dict.__eq__» ⟨[.ref l, .int b u], []⟩) (fun _ R s => s.heap.get? l = some (dob es ep) ∧ R (.ok (.ret .notImplemented)) s) :=
  .of_wp fun prog w A R s h => by obtain ⟨hp, g, d, tk, os⟩ := s; obtain ⟨hl, h⟩ := h; have f1 := F.sub_int_dict; wp_walk using wpAny_loadPart' hl; exact ⟨_, rfl, h⟩
theorem dict_eq_declines_str (l : Addr) (es : Array DictEntry) (ep : Nat) (b : Str) (u : Tok) :
    Meets (Builtin.«dict.__eq__» ⟨[.ref l, .str b u], []⟩) (fun _ R s => s.heap.get? l = some (dob es ep) ∧ R (.ok (.ret .notImplemented)) s) :=
  .of_wp fun prog w A R s h => by obtain ⟨hp, g, d, tk, os⟩ := s; obtain ⟨hl, h⟩ := h; have f1 := F.sub_str_dict; wp_walk using wpAny_loadPart' hl; exact ⟨_, rfl, h⟩
theorem int_eq_declines_dict_bool (b : Bool) (l : Addr) (es : Array DictEntry) (ep : Nat) :
    Meets (Builtin.«int.__eq__» ⟨[.bool b, .ref l], []⟩) (fun _ R s => s.heap.get? l = some (dob es ep) ∧ R (.ok (.ret .notImplemented)) s) :=
  .of_wp fun prog w A R s h => by obtain ⟨hp, g, d, tk, os⟩ := s; obtain ⟨hl, h⟩ := h; wp_walk using wpAny_loadPart' hl, wpAny_load hl; exact ⟨_, rfl, h⟩
theorem int_eq_declines_dict_int (b : Int) (u : Tok) (l : Addr) (es : Array DictEntry) (ep : Nat) :
    Meets (Builtin.«int.__eq__» ⟨[.int b u, .ref l], []⟩) (fun _ R s => s.heap.get? l = some (dob es ep) ∧ R (.ok (.ret .notImplemented)) s) :=
  .of_wp fun prog w A R s h => by obtain ⟨hp, g, d, tk, os⟩ := s; obtain ⟨hl, h⟩ := h; wp_walk using wpAny_loadPart' hl, wpAny_load hl; exact ⟨_, rfl, h⟩
theorem str_eq_declines_dict_str (b : Str) (u : Tok) (l : Addr) (es : Array DictEntry) (ep : Nat) :
    Meets (Builtin.«str.__eq__» ⟨[.str b u, .ref l], []⟩) (fun _ R s => s.heap.get? l = some (dob es ep) ∧ R (.ok (.ret .notImplemented)) s) :=
  .of_wp fun prog w A R s h => by obtain ⟨hp, g, d, tk, os⟩ := s; obtain ⟨hl, h⟩ := h; wp_walk using wpAny_loadPart' hl, wpAny_load hl; exact ⟨_, rfl, h⟩

theorem dict_eq_declines_list (l b : Addr) (es : Array DictEntry) (ep : Nat) (items : Array Value) (n : Nat) (dd : Option Addr) (sl : Array (Option Value)) :
    Meets (Builtin.«dict.__eq__» ⟨[.ref l, .ref b], []⟩) (fun _ R s => s.heap.get? l = some (dob es ep) ∧ s.heap.get? b = some { cls := .type "list", dict := dd, data := .seq items n, slots := sl } ∧ R (.ok (.ret .notImplemented)) s) :=
  .of_wp fun prog w A R s h => by obtain ⟨hp, g, d, tk, os⟩ := s; obtain ⟨hl, hb, h⟩ := h; have f1 := F.sub_list_dict; wp_walk using wpAny_loadPart' hl, wpAny_loadPart' hb; exact ⟨_, rfl, h⟩
theorem list_eq_declines_dict (l b : Addr) (es : Array DictEntry) (ep : Nat) (items : Array Value) (n : Nat) (dd : Option Addr) (sl : Array (Option Value)) :
    Meets (Builtin.«list.__eq__» ⟨[.ref b, .ref l], []⟩) (fun _ R s => s.heap.get? l = some (dob es ep) ∧ s.heap.get? b = some { cls := .type "list", dict := dd, data := .seq items n, slots := sl } ∧ R (.ok (.ret .notImplemented)) s) :=
  .of_wp fun prog w A R s h => by obtain ⟨hp, g, d, tk, os⟩ := s; obtain ⟨hl, hb, h⟩ := h; have f1 := F.sub_dict_list; wp_walk using wpAny_loadPart' hl, wpAny_loadPart' hb; exact ⟨_, rfl, h⟩

theorem dict_eq_declines_tuple (l b : Addr) (es : Array DictEntry) (ep : Nat) (items : Array Value) (n : Nat) (dd : Option Addr) (sl : Array (Option Value)) :
    Meets (Builtin.«dict.__eq__» ⟨[.ref l, .ref b], []⟩) (fun _ R s => s.heap.get? l = some (dob es ep) ∧ s.heap.get? b = some { cls := .type "tuple", dict := dd, data := .seq items n, slots := sl } ∧ R (.ok (.ret .notImplemented)) s) :=
  .of_wp fun prog w A R s h => by obtain ⟨hp, g, d, tk, os⟩ := s; obtain ⟨hl, hb, h⟩ := h; have f1 := F.sub_tuple_dict; wp_walk using wpAny_loadPart' hl, wpAny_loadPart' hb; exact ⟨_, rfl, h⟩
theorem tuple_eq_declines_dict (l b : Addr) (es : Array DictEntry) (ep : Nat) (items : Array Value) (n : Nat) (dd : Option Addr) (sl : Array (Option Value)) :
    Meets (Builtin.«tuple.__eq__» ⟨[.ref b, .ref l], []⟩) (fun _ R s => s.heap.get? l = some (dob es ep) ∧ s.heap.get? b = some { cls := .type "tuple", dict := dd, data := .seq items n, slots := sl } ∧ R (.ok (.ret .notImplemented)) s) :=
  .of_wp fun prog w A R s h => by obtain ⟨hp, g, d, tk, os⟩ := s; obtain ⟨hl, hb, h⟩ := h; have f1 := F.sub_dict_tuple; wp_walk using wpAny_loadPart' hl, wpAny_loadPart' hb; exact ⟨_, rfl, h⟩

section
variable {A : Around} {s : Shared}

theorem rc_dict_none {l : Addr}  (hl : IsDct s.heap l) (hu : A.units < cLine) : RcAt A s (.ref l) (.none) false := fun prog w E Q h => by
  obtain ⟨es, ep, ho⟩ := id hl
  exact rc_eq_decline_or (k := false) ⟨_, ho, rfl⟩ (rfl) (by decide) F.sub_NoneType_dict F.slot_dict_eq F.slot_NoneType_eq_refl
    (fun _ hq => call_meets F.slot_dict_eq ⟨_, ho, rfl⟩ F.entry_dict_eq (F.args_dict_eq_2 _ _) (dict_eq_declines_none l es ep) ⟨ho, hq⟩)
    (fun _ hq => call_gives F.slot_NoneType_eq_refl rfl F.entry_NoneType_eq (F.args_NoneType_eq_2 _ _) (NoneType___eq___none_ref_0 l) hq)
    (fun _ hq => wpAny_of_eq (rfl : isSame (.ref l) (.none) = pure false) hq) (.inr hu) h
theorem eq_dict_none {l : Addr}  (hl : IsDct s.heap l) (hu : A.units < cLine) : EqAt A s (.ref l) (.none) false := fun prog w E Q h => by
  unfold eqBool
  refine wpAny_holding ?_
  refine wpAny_ite_split (fun hab => absurd (eq_of_beq hab) nofun) (fun _ => ?_)
  exact wpAny_bind (rc_dict_none hl hu prog w E _ (wpAny_truthy_bool h))
theorem rc_none_dict {l : Addr}  (hl : IsDct s.heap l) (hu : A.units < cLine) : RcAt A s (.none) (.ref l) false := fun prog w E Q h => by
  obtain ⟨es, ep, ho⟩ := id hl
  exact rc_eq_decline_or (k := false) (rfl) ⟨_, ho, rfl⟩ (by decide) F.sub_dict_NoneType F.slot_NoneType_eq F.slot_dict_eq_refl
    (fun _ hq => call_gives F.slot_NoneType_eq rfl F.entry_NoneType_eq (F.args_NoneType_eq_2 _ _) (NoneType___eq___none_ref_0 l) hq)
    (fun _ hq => call_meets F.slot_dict_eq_refl ⟨_, ho, rfl⟩ F.entry_dict_eq (F.args_dict_eq_2 _ _) (dict_eq_declines_none l es ep) ⟨ho, hq⟩)
    (fun _ hq => wpAny_of_eq (rfl : isSame (.none) (.ref l) = pure false) hq) (.inr hu) h
theorem eq_none_dict {l : Addr}  (hl : IsDct s.heap l) (hu : A.units < cLine) : EqAt A s (.none) (.ref l) false := fun prog w E Q h => by
  unfold eqBool
  refine wpAny_holding ?_
  refine wpAny_ite_split (fun hab => absurd (eq_of_beq hab) nofun) (fun _ => ?_)
  exact wpAny_bind (rc_none_dict hl hu prog w E _ (wpAny_truthy_bool h))
theorem rc_dict_bool {l : Addr} (b : Bool) (hl : IsDct s.heap l) (hu : A.units < cLine) : RcAt A s (.ref l) (.bool b) false := fun prog w E Q h => by
  obtain ⟨es, ep, ho⟩ := id hl
  exact rc_eq_decline_or (k := false) ⟨_, ho, rfl⟩ (rfl) (by decide) F.sub_bool_dict F.slot_dict_eq F.slot_bool_eq_refl
    (fun _ hq => call_meets F.slot_dict_eq ⟨_, ho, rfl⟩ F.entry_dict_eq (F.args_dict_eq_2 _ _) (dict_eq_declines_bool l es ep b) ⟨ho, hq⟩)
    (fun _ hq => call_meets F.slot_bool_eq_refl rfl F.entry_int_eq (F.args_int_eq_2 _ _) (int_eq_declines_dict_bool b l es ep) ⟨ho, hq⟩)
    (fun _ hq => wpAny_of_eq (rfl : isSame (.ref l) (.bool b) = pure false) hq) (.inr hu) h
theorem eq_dict_bool {l : Addr} (b : Bool) (hl : IsDct s.heap l) (hu : A.units < cLine) : EqAt A s (.ref l) (.bool b) false := fun prog w E Q h => by
  unfold eqBool
  refine wpAny_holding ?_
  refine wpAny_ite_split (fun hab => absurd (eq_of_beq hab) nofun) (fun _ => ?_)
  exact wpAny_bind (rc_dict_bool b hl hu prog w E _ (wpAny_truthy_bool h))
theorem rc_bool_dict {l : Addr} (b : Bool) (hl : IsDct s.heap l) (hu : A.units < cLine) : RcAt A s (.bool b) (.ref l) false := fun prog w E Q h => by
  obtain ⟨es, ep, ho⟩ := id hl
  exact rc_eq_decline_or (k := false) (rfl) ⟨_, ho, rfl⟩ (by decide) F.sub_dict_bool F.slot_bool_eq F.slot_dict_eq_refl
    (fun _ hq => call_meets F.slot_bool_eq rfl F.entry_int_eq (F.args_int_eq_2 _ _) (int_eq_declines_dict_bool b l es ep) ⟨ho, hq⟩)
    (fun _ hq => call_meets F.slot_dict_eq_refl ⟨_, ho, rfl⟩ F.entry_dict_eq (F.args_dict_eq_2 _ _) (dict_eq_declines_bool l es ep b) ⟨ho, hq⟩)
    (fun _ hq => wpAny_of_eq (rfl : isSame (.bool b) (.ref l) = pure false) hq) (.inr hu) h
theorem eq_bool_dict {l : Addr} (b : Bool) (hl : IsDct s.heap l) (hu : A.units < cLine) : EqAt A s (.bool b) (.ref l) false := fun prog w E Q h => by
  unfold eqBool
  refine wpAny_holding ?_
  refine wpAny_ite_split (fun hab => absurd (eq_of_beq hab) nofun) (fun _ => ?_)
  exact wpAny_bind (rc_bool_dict b hl hu prog w E _ (wpAny_truthy_bool h))
theorem rc_dict_int {l : Addr} (b : Int) (u : Tok) (hl : IsDct s.heap l) (hu : A.units < cLine) : RcAt A s (.ref l) (.int b u) false := fun prog w E Q h => by
  obtain ⟨es, ep, ho⟩ := id hl
  exact rc_eq_decline_or (k := false) ⟨_, ho, rfl⟩ (typeIs_int s b u) (by decide) F.sub_int_dict F.slot_dict_eq F.slot_int_eq_refl
    (fun _ hq => call_meets F.slot_dict_eq ⟨_, ho, rfl⟩ F.entry_dict_eq (F.args_dict_eq_2 _ _) (dict_eq_declines_int l es ep b u) ⟨ho, hq⟩)
    (fun _ hq => call_meets F.slot_int_eq_refl (typeIs_int s b u) F.entry_int_eq (F.args_int_eq_2 _ _) (int_eq_declines_dict_int b u l es ep) ⟨ho, hq⟩)
    (fun _ hq => wpAny_of_eq (rfl : isSame (.ref l) (.int b u) = pure false) hq) (.inr hu) h
theorem eq_dict_int {l : Addr} (b : Int) (u : Tok) (hl : IsDct s.heap l) (hu : A.units < cLine) : EqAt A s (.ref l) (.int b u) false := fun prog w E Q h => by
  unfold eqBool
  refine wpAny_holding ?_
  refine wpAny_ite_split (fun hab => absurd (eq_of_beq hab) nofun) (fun _ => ?_)
  exact wpAny_bind (rc_dict_int b u hl hu prog w E _ (wpAny_truthy_bool h))
theorem rc_int_dict {l : Addr} (b : Int) (u : Tok) (hl : IsDct s.heap l) (hu : A.units < cLine) : RcAt A s (.int b u) (.ref l) false := fun prog w E Q h => by
  obtain ⟨es, ep, ho⟩ := id hl
  exact rc_eq_decline_or (k := false) (typeIs_int s b u) ⟨_, ho, rfl⟩ (by decide) F.sub_dict_int F.slot_int_eq F.slot_dict_eq_refl
    (fun _ hq => call_meets F.slot_int_eq (typeIs_int s b u) F.entry_int_eq (F.args_int_eq_2 _ _) (int_eq_declines_dict_int b u l es ep) ⟨ho, hq⟩)
    (fun _ hq => call_meets F.slot_dict_eq_refl ⟨_, ho, rfl⟩ F.entry_dict_eq (F.args_dict_eq_2 _ _) (dict_eq_declines_int l es ep b u) ⟨ho, hq⟩)
    (fun _ hq => wpAny_of_eq (rfl : isSame (.int b u) (.ref l) = pure false) hq) (.inr hu) h
theorem eq_int_dict {l : Addr} (b : Int) (u : Tok) (hl : IsDct s.heap l) (hu : A.units < cLine) : EqAt A s (.int b u) (.ref l) false := fun prog w E Q h => by
  unfold eqBool
  refine wpAny_holding ?_
  refine wpAny_ite_split (fun hab => absurd (eq_of_beq hab) nofun) (fun _ => ?_)
  exact wpAny_bind (rc_int_dict b u hl hu prog w E _ (wpAny_truthy_bool h))
theorem rc_dict_str {l : Addr} (b : Str) (u : Tok) (hl : IsDct s.heap l) (hu : A.units < cLine) : RcAt A s (.ref l) (.str b u) false := fun prog w E Q h => by
  obtain ⟨es, ep, ho⟩ := id hl
  exact rc_eq_decline_or (k := false) ⟨_, ho, rfl⟩ (typeIs_str s b u) (by decide) F.sub_str_dict F.slot_dict_eq F.slot_str_eq_refl
    (fun _ hq => call_meets F.slot_dict_eq ⟨_, ho, rfl⟩ F.entry_dict_eq (F.args_dict_eq_2 _ _) (dict_eq_declines_str l es ep b u) ⟨ho, hq⟩)
    (fun _ hq => call_meets F.slot_str_eq_refl (typeIs_str s b u) F.entry_str_eq (F.args_str_eq_2 _ _) (str_eq_declines_dict_str b u l es ep) ⟨ho, hq⟩)
    (fun _ hq => wpAny_of_eq (rfl : isSame (.ref l) (.str b u) = pure false) hq) (.inr hu) h
theorem eq_dict_str {l : Addr} (b : Str) (u : Tok) (hl : IsDct s.heap l) (hu : A.units < cLine) : EqAt A s (.ref l) (.str b u) false := fun prog w E Q h => by
  unfold eqBool
  refine wpAny_holding ?_
  refine wpAny_ite_split (fun hab => absurd (eq_of_beq hab) nofun) (fun _ => ?_)
  exact wpAny_bind (rc_dict_str b u hl hu prog w E _ (wpAny_truthy_bool h))
theorem rc_str_dict {l : Addr} (b : Str) (u : Tok) (hl : IsDct s.heap l) (hu : A.units < cLine) : RcAt A s (.str b u) (.ref l) false := fun prog w E Q h => by
  obtain ⟨es, ep, ho⟩ := id hl
  exact rc_eq_decline_or (k := false) (typeIs_str s b u) ⟨_, ho, rfl⟩ (by decide) F.sub_dict_str F.slot_str_eq F.slot_dict_eq_refl
    (fun _ hq => call_meets F.slot_str_eq (typeIs_str s b u) F.entry_str_eq (F.args_str_eq_2 _ _) (str_eq_declines_dict_str b u l es ep) ⟨ho, hq⟩)
    (fun _ hq => call_meets F.slot_dict_eq_refl ⟨_, ho, rfl⟩ F.entry_dict_eq (F.args_dict_eq_2 _ _) (dict_eq_declines_str l es ep b u) ⟨ho, hq⟩)
    (fun _ hq => wpAny_of_eq (rfl : isSame (.str b u) (.ref l) = pure false) hq) (.inr hu) h
theorem eq_str_dict {l : Addr} (b : Str) (u : Tok) (hl : IsDct s.heap l) (hu : A.units < cLine) : EqAt A s (.str b u) (.ref l) false := fun prog w E Q h => by
  unfold eqBool
  refine wpAny_holding ?_
  refine wpAny_ite_split (fun hab => absurd (eq_of_beq hab) nofun) (fun _ => ?_)
  exact wpAny_bind (rc_str_dict b u hl hu prog w E _ (wpAny_truthy_bool h))
theorem ne_dict_list {l b : Addr} {items : Array Value} (hl : IsDct s.heap l) (hb : s.heap.IsList b items) : l ≠ b := fun e => by
  subst e
  obtain ⟨es, ep, ho⟩ := hl
  obtain ⟨o2, ho2, hc2, _⟩ := hb
  rw [ho] at ho2
  cases ho2
  exact absurd hc2 (by simp)
theorem rc_dict_list {l b : Addr} {items : Array Value} (hl : IsDct s.heap l) (hb : s.heap.IsList b items) (hu : A.units < cLine) : RcAt A s (.ref l) (.ref b) false := fun prog w E Q h => by
  have hne := ne_dict_list hl hb
  obtain ⟨es, ep, ho⟩ := id hl
  obtain ⟨⟨cls2, dd2, data2, sl2⟩, ho2, hc2, n2, hd2⟩ := id hb
  simp only at hc2 hd2
  subst hc2 hd2
  exact (rc_eq_decline_or (k := false) ⟨_, ho, rfl⟩ ⟨_, ho2, rfl⟩ (by decide) F.sub_list_dict F.slot_dict_eq F.slot_list_eq_refl
    (fun _ hq => call_meets F.slot_dict_eq ⟨_, ho, rfl⟩ F.entry_dict_eq (F.args_dict_eq_2 _ _) (dict_eq_declines_list l b es ep items n2 dd2 sl2) ⟨ho, ho2, hq⟩)
    (fun _ hq => call_meets F.slot_list_eq_refl ⟨_, ho2, rfl⟩ F.entry_list_eq (F.args_list_eq_2 _ _) (list_eq_declines_dict l b es ep items n2 dd2 sl2) ⟨ho, ho2, hq⟩)
    (fun _ hq => wpAny_isSame_ref_other' hne ho ho2 (by simp) hq) (.inr hu) h)
theorem eq_dict_list {l b : Addr} {items : Array Value} (hl : IsDct s.heap l) (hb : s.heap.IsList b items) (hu : A.units < cLine) : EqAt A s (.ref l) (.ref b) false := .of_refs (ne_dict_list hl hb) (rc_dict_list hl hb hu)
theorem rc_list_dict {l b : Addr} {items : Array Value} (hl : IsDct s.heap l) (hb : s.heap.IsList b items) (hu : A.units < cLine) : RcAt A s (.ref b) (.ref l) false := fun prog w E Q h => by
  have hne := (ne_dict_list hl hb).symm
  obtain ⟨es, ep, ho⟩ := id hl
  obtain ⟨⟨cls2, dd2, data2, sl2⟩, ho2, hc2, n2, hd2⟩ := id hb
  simp only at hc2 hd2
  subst hc2 hd2
  exact (rc_eq_decline_or (k := false) ⟨_, ho2, rfl⟩ ⟨_, ho, rfl⟩ (by decide) F.sub_dict_list F.slot_list_eq F.slot_dict_eq_refl
    (fun _ hq => call_meets F.slot_list_eq ⟨_, ho2, rfl⟩ F.entry_list_eq (F.args_list_eq_2 _ _) (list_eq_declines_dict l b es ep items n2 dd2 sl2) ⟨ho, ho2, hq⟩)
    (fun _ hq => call_meets F.slot_dict_eq_refl ⟨_, ho, rfl⟩ F.entry_dict_eq (F.args_dict_eq_2 _ _) (dict_eq_declines_list l b es ep items n2 dd2 sl2) ⟨ho, ho2, hq⟩)
    (fun _ hq => wpAny_isSame_ref_other' hne ho2 ho (by simp) hq) (.inr hu) h)
theorem eq_list_dict {l b : Addr} {items : Array Value} (hl : IsDct s.heap l) (hb : s.heap.IsList b items) (hu : A.units < cLine) : EqAt A s (.ref b) (.ref l) false := .of_refs (ne_dict_list hl hb).symm (rc_list_dict hl hb hu)
theorem ne_dict_tuple {l b : Addr} {items : Array Value} (hl : IsDct s.heap l) (hb : s.heap.IsTuple b items) : l ≠ b := fun e => by
  subst e
  obtain ⟨es, ep, ho⟩ := hl
  obtain ⟨o2, ho2, hc2, _⟩ := hb
  rw [ho] at ho2
  cases ho2
  exact absurd hc2 (by simp)
theorem rc_dict_tuple {l b : Addr} {items : Array Value} (hl : IsDct s.heap l) (hb : s.heap.IsTuple b items) (hu : A.units < cLine) : RcAt A s (.ref l) (.ref b) false := fun prog w E Q h => by
  have hne := ne_dict_tuple hl hb
  obtain ⟨es, ep, ho⟩ := id hl
  obtain ⟨⟨cls2, dd2, data2, sl2⟩, ho2, hc2, n2, hd2⟩ := id hb
  simp only at hc2 hd2
  subst hc2 hd2
  exact (rc_eq_decline_or (k := false) ⟨_, ho, rfl⟩ ⟨_, ho2, rfl⟩ (by decide) F.sub_tuple_dict F.slot_dict_eq F.slot_tuple_eq_refl
    (fun _ hq => call_meets F.slot_dict_eq ⟨_, ho, rfl⟩ F.entry_dict_eq (F.args_dict_eq_2 _ _) (dict_eq_declines_tuple l b es ep items n2 dd2 sl2) ⟨ho, ho2, hq⟩)
    (fun _ hq => call_meets F.slot_tuple_eq_refl ⟨_, ho2, rfl⟩ F.entry_tuple_eq (F.args_tuple_eq_2 _ _) (tuple_eq_declines_dict l b es ep items n2 dd2 sl2) ⟨ho, ho2, hq⟩)
    (fun _ hq => wpAny_isSame_ref_other hne ho ho2 (by simp) hq) (.inr hu) h)
theorem eq_dict_tuple {l b : Addr} {items : Array Value} (hl : IsDct s.heap l) (hb : s.heap.IsTuple b items) (hu : A.units < cLine) : EqAt A s (.ref l) (.ref b) false := .of_refs (ne_dict_tuple hl hb) (rc_dict_tuple hl hb hu)
theorem rc_tuple_dict {l b : Addr} {items : Array Value} (hl : IsDct s.heap l) (hb : s.heap.IsTuple b items) (hu : A.units < cLine) : RcAt A s (.ref b) (.ref l) false := fun prog w E Q h => by
  have hne := (ne_dict_tuple hl hb).symm
  obtain ⟨es, ep, ho⟩ := id hl
  obtain ⟨⟨cls2, dd2, data2, sl2⟩, ho2, hc2, n2, hd2⟩ := id hb
  simp only at hc2 hd2
  subst hc2 hd2
  exact (rc_eq_decline_or (k := false) ⟨_, ho2, rfl⟩ ⟨_, ho, rfl⟩ (by decide) F.sub_dict_tuple F.slot_tuple_eq F.slot_dict_eq_refl
    (fun _ hq => call_meets F.slot_tuple_eq ⟨_, ho2, rfl⟩ F.entry_tuple_eq (F.args_tuple_eq_2 _ _) (tuple_eq_declines_dict l b es ep items n2 dd2 sl2) ⟨ho, ho2, hq⟩)
    (fun _ hq => call_meets F.slot_dict_eq_refl ⟨_, ho, rfl⟩ F.entry_dict_eq (F.args_dict_eq_2 _ _) (dict_eq_declines_tuple l b es ep items n2 dd2 sl2) ⟨ho, ho2, hq⟩)
    (fun _ hq => wpAny_isSame_ref_other' hne ho2 ho (by simp) hq) (.inr hu) h)
theorem eq_tuple_dict {l b : Addr} {items : Array Value} (hl : IsDct s.heap l) (hb : s.heap.IsTuple b items) (hu : A.units < cLine) : EqAt A s (.ref b) (.ref l) false := .of_refs (ne_dict_tuple hl hb).symm (rc_tuple_dict hl hb hu)
end
end MLE

/-! MLinkNd: a text is not a dict. -/
namespace MLE
open PySem PySem.Spec PyProof.Rows PySem.SeqAt
theorem dict_ne_declines_str (l : Addr) (es : Array DictEntry) (ep : Nat) (b : Str) (u : Tok) :
    Meets (Builtin.«dict.__ne__» ⟨[.ref l, .str b u], []⟩) (fun _ R s => s.heap.get? l = some (dob es ep) ∧ R (.ok (.ret .notImplemented)) s) :=
  .of_wp fun prog w A R s h => by obtain ⟨hp, g, d, tk, os⟩ := s; obtain ⟨hl, h⟩ := h; have f1 := F.sub_str_dict; wp_walk using wpAny_loadPart' hl; exact ⟨_, rfl, h⟩
theorem str_ne_declines_dict_str (b : Str) (u : Tok) (l : Addr) (es : Array DictEntry) (ep : Nat) :
    Meets (Builtin.«str.__ne__» ⟨[.str b u, .ref l], []⟩) (fun _ R s => s.heap.get? l = some (dob es ep) ∧ R (.ok (.ret .notImplemented)) s) :=
  .of_wp fun prog w A R s h => by obtain ⟨hp, g, d, tk, os⟩ := s; obtain ⟨hl, h⟩ := h; wp_walk using wpAny_loadPart' hl, wpAny_load hl; exact ⟨_, rfl, h⟩
section
variable {A : Around} {s : Shared}
theorem rcne_str_dict {l : Addr} (b : Str) (u : Tok) (hl : IsDct s.heap l) (hu : A.units < cLine) : RcNeAt A s (.str b u) (.ref l) true := fun prog w E Q h => by
  obtain ⟨es, ep, ho⟩ := id hl
  exact rc_ne_decline_or (k := false) (typeIs_str s b u) ⟨_, ho, rfl⟩ (by decide) F.sub_dict_str F.slot_str_ne F.slot_dict_ne_refl
    (fun _ hq => call_meets F.slot_str_ne (typeIs_str s b u) F.entry_str_ne (F.args_str_ne_2 _ _) (str_ne_declines_dict_str b u l es ep) ⟨ho, hq⟩)
    (fun _ hq => call_meets F.slot_dict_ne_refl ⟨_, ho, rfl⟩ F.entry_dict_ne (F.args_dict_ne_2 _ _) (dict_ne_declines_str l es ep b u) ⟨ho, hq⟩)
    (fun _ hq => wpAny_of_eq (rfl : isSame (.str b u) (.ref l) = pure false) hq) (.inr hu) h
end
end MLE

/-! MLinkC: equality at any depth, in, places, slices, len, +, *, truth. -/
namespace ML
open PySem PySem.Spec PyProof.Rows L2
open MP (MV MO Mem Fr ME MA MT MS MG MI MFn Res SR)

/-! ### equality -/
theorem eqL_some {e : MV → MV → Option Bool} : ∀ {xs ys : List MV} {b : Bool}, MP.eqL e xs ys = some b →
    ∃ f : Nat → Bool, (∀ (j : Nat) (x y : MV), xs[j]? = some x → ys[j]? = some y → e x y = some (f j)) ∧ b = ((List.range (min xs.length ys.length)).all f && xs.length == ys.length)
  | [], [], b, h => by
    have : true = b := Option.some.inj h
    exact ⟨fun _ => true, fun j x y h1 => by simp at h1, by rw [← this]; rfl⟩
  | [], y :: ys, b, h => by
    have : false = b := Option.some.inj h
    exact ⟨fun _ => true, fun j x y h1 => by simp at h1, by rw [← this]; simp⟩
  | x :: xs, [], b, h => by
    have : false = b := Option.some.inj h
    exact ⟨fun _ => true, fun j x y h1 h2 => by simp at h2, by rw [← this]; simp⟩
  | x :: xs, y :: ys, b, h => by
    unfold MP.eqL at h
    cases h1 : e x y with
    | none => rw [h1] at h; simp at h
    | some a =>
      cases h2 : MP.eqL e xs ys with
      | none => rw [h1, h2] at h; simp at h
      | some c =>
        rw [h1, h2] at h
        have hb : (a && c) = b := Option.some.inj h
        obtain ⟨f, hf, hc⟩ := eqL_some h2
        refine ⟨fun j => match j with | 0 => a | j + 1 => f j, fun j u v e1 e2 => ?_, ?_⟩
        · cases j with
          | zero =>
            have e1' : x = u := by simpa using e1
            have e2' : y = v := by simpa using e2
            rw [← e1', ← e2']; exact h1
          | succ j => exact hf j u v (by simpa using e1) (by simpa using e2)
        · rw [← hb, hc, List.length_cons, List.length_cons, Nat.succ_min_succ, List.range_succ_eq_map, List.all_cons, List.all_map]
          show (a && ((List.range (min xs.length ys.length)).all f && xs.length == ys.length)) = (a && (List.range (min xs.length ys.length)).all f && (xs.length + 1 == ys.length + 1))
          rw [Bool.and_assoc]
          congr 2
          rw [Bool.eq_iff_iff]
          simp
theorem eqD_some {e : MV → MV → Option Bool} {ys : List (Key × MV)} : ∀ {xs : List (Key × MV)} {b : Bool}, MP.eqD e ys xs = some b → (xs.map (·.1)).Nodup →
    ∃ f : Key → Bool, (∀ k x y, (k, x) ∈ xs → MP.getK ys k = some y → e x y = some (f k)) ∧ b = xs.all fun p => (MP.getK ys p.1).isSome && f p.1
  | [], b, h, _ => by
    have : true = b := Option.some.inj h
    exact ⟨fun _ => true, fun k x y h1 => by simp at h1, by rw [← this]; rfl⟩
  | (k, x) :: xs, b, h, nd => by
    have nd' : (xs.map (·.1)).Nodup := (List.nodup_cons.mp nd).2
    have nk : k ∉ xs.map (·.1) := (List.nodup_cons.mp nd).1
    unfold MP.eqD at h
    have tail : ∀ {c : Bool} {a : Bool}, MP.eqD e ys xs = some c → (∀ y, MP.getK ys k = some y → e x y = some a) → ∃ f : Key → Bool, (∀ k' x' y, (k', x') ∈ (k, x) :: xs → MP.getK ys k' = some y → e x' y = some (f k')) ∧
        c = (xs.all fun p => (MP.getK ys p.1).isSome && f p.1) ∧ f k = a := fun {c a} hc ha => by
      obtain ⟨f, hf, hc2⟩ := eqD_some hc nd'
      refine ⟨fun k' => if k' = k then a else f k', fun k' x' y hm hg => ?_, ?_, if_pos rfl⟩
      · rcases List.mem_cons.mp hm with z | z
        · cases z
          simp only [if_true]; exact ha y hg
        · have hne : k' ≠ k := fun q => nk (q ▸ List.mem_map.mpr ⟨(k', x'), z, rfl⟩)
          simp only [if_neg hne]; exact hf k' x' y z hg
      · rw [hc2]
        rw [Bool.eq_iff_iff, List.all_eq_true, List.all_eq_true]
        constructor
        · intro q p hp
          have hne : p.1 ≠ k := fun z => nk (z ▸ List.mem_map.mpr ⟨p, hp, rfl⟩)
          simp only [if_neg hne]; exact q p hp
        · intro q p hp
          have hne : p.1 ≠ k := fun z => nk (z ▸ List.mem_map.mpr ⟨p, hp, rfl⟩)
          have := q p hp
          simp only [if_neg hne] at this; exact this
    cases hg : MP.getK ys k with
    | none =>
      rw [hg] at h
      cases hc : MP.eqD e ys xs with
      | none => rw [hc] at h; simp at h
      | some c =>
        rw [hc] at h
        have hb : false = b := Option.some.inj h
        obtain ⟨f, hf, _, _⟩ := tail (a := true) hc fun y z => by rw [hg] at z; cases z
        refine ⟨f, hf, ?_⟩
        rw [← hb, List.all_cons, hg]; rfl
    | some y =>
      rw [hg] at h
      cases ha : e x y with
      | none => simp only [ha] at h; simp at h
      | some a =>
        cases hc : MP.eqD e ys xs with
        | none => simp only [ha, hc] at h; simp at h
        | some c =>
          simp only [ha, hc] at h
          have hb : (a && c) = b := Option.some.inj h
          obtain ⟨f, hf, hc2, hk⟩ := tail (a := a) hc fun y' z => by rw [hg] at z; cases z; exact ha
          refine ⟨f, hf, ?_⟩
          rw [← hb, hc2, List.all_cons, hg, hk]; rfl

section
variable {X : Cx} {pins : List (Addr × Obj)} {σ : L2.St} {H : Hp} {s : Shared} {rho : Rho} {mem : Mem} {ex : ExH}
theorem isDct_at (I : Inv X pins σ H s) {a : Addr} {vs : List (Key × V)} (h : Rd H a (.dK vs)) : MLE.IsDct s.heap a := by
  obtain ⟨_, _, us, _, d⟩ := dk_rd I.hok h
  exact MLE.isDct_of d
theorem rd_dct {b : Bool} {a : Addr} {kvs : List (Key × MV)} (h : SimO X.K X.mg rho H a (.dct b kvs)) : ∃ vs, Rd H a (.dK vs) ∧ SimP X.K none rho H kvs vs := by
  cases b with
  | false => obtain ⟨vs, h1, h2⟩ := h; exact ⟨vs, .inl h1, h2⟩
  | true => obtain ⟨o, vs, h1, h2⟩ := h; exact ⟨vs, .inr ⟨o, h1⟩, h2⟩
theorem sqT_not (I : Inv X pins σ H s) {a : Addr} {vs : List V} {u : HO} (h : SqT X.K H a vs) (e : H a = some u) (h1 : u ≠ .tup vs) (h2 : ∀ o, u ≠ .frz o (.tup vs)) : False := by
  rcases h with (h | ⟨o, h⟩) | ⟨o, its, n, h, _⟩
  · rw [e] at h; cases h; exact h1 rfl
  · rw [e] at h; cases h; exact h2 o rfl
  · have z := (I.bs a o (I.ok.mod.kin a o h)).2
    rw [e] at z; cases z
theorem rd_not_rol {n : Nat} {o : MO} (_ : mem[n]? = some o) (h : isRol o = false) : isRol o = false := h
/-- the same value is like itself -/
theorem eqF_same (M : SimM X.K X.mg rho H mem) (I : Inv X pins σ H s) : ∀ (d : Nat) {x y : MV} {v : V} {b : Bool}, SimV X.K ex rho H x v → SimV X.K ex rho H y v → MP.eqF d mem x y = some b → b = true := by
  intro d
  induction d with
  | zero => intro x y v b _ _ h; simp [MP.eqF] at h
  | succ d ih =>
    have lists : ∀ {xs ys : List MV} {vs : List V} {b : Bool}, SimL X.K ex rho H xs vs → SimL X.K ex rho H ys vs → MP.eqL (MP.eqF d mem) xs ys = some b → b = true := by
      intro xs
      induction xs with
      | nil =>
        intro ys vs b h1 h2 h
        rw [SimL.inv_nil h1] at h2
        cases ys with
        | nil => exact (Option.some.inj h).symm
        | cons y ys => obtain ⟨_, _, z, _⟩ := SimL.inv_cons h2; cases z
      | cons x xs ihx =>
        intro ys vs b h1 h2 h
        obtain ⟨v, vs', rfl, q, l⟩ := SimL.inv_cons h1
        cases ys with
        | nil => have z := SimL.inv_nil h2; cases z
        | cons y ys =>
          obtain ⟨v2, vs2, e, q2, l2⟩ := SimL.inv_cons h2
          cases e
          unfold MP.eqL at h
          cases h3 : MP.eqF d mem x y with
          | none => rw [h3] at h; simp at h
          | some a =>
            cases h4 : MP.eqL (MP.eqF d mem) xs ys with
            | none => rw [h3, h4] at h; simp at h
            | some c =>
              rw [h3, h4] at h
              have hb : (a && c) = b := Option.some.inj h
              rw [← hb, ih q q2 h3, ihx l l2 h4]; rfl
    intro x y v b h1 h2 h
    have flat : ∀ {k : MP.Kd}, MP.kd mem x = some k → MP.kd mem y = some k → MP.eqF (d + 1) mem x y = (match MP.kd mem x, MP.kd mem y with | some k, some l => MP.eqK k l | _, _ => none) → b = true := fun {k} e1 e2 e3 => by
      rw [e3, e1, e2] at h
      cases k <;> simp [MP.eqK] at h <;> exact h
    cases x with
    | non => unfold SimV at h1; subst h1; cases y <;> unfold SimV at h2 <;> first | exact flat rfl rfl rfl | (cases h2; done) | (obtain ⟨_, _, z, _⟩ := h2; cases z; done) | (obtain ⟨_, _, z⟩ := h2; cases z; done)
    | bl i => unfold SimV at h1; subst h1; cases y <;> unfold SimV at h2 <;> first | (cases h2; exact flat rfl rfl rfl) | (cases h2; done) | (obtain ⟨_, _, z, _⟩ := h2; cases z; done) | (obtain ⟨_, _, z⟩ := h2; cases z; done)
    | int i => unfold SimV at h1; subst h1; cases y <;> unfold SimV at h2 <;> first | (cases h2; exact flat rfl rfl rfl) | (cases h2; done) | (obtain ⟨_, _, z, _⟩ := h2; cases z; done) | (obtain ⟨_, _, z⟩ := h2; cases z; done)
    | str i => unfold SimV at h1; subst h1; cases y <;> unfold SimV at h2 <;> first | (cases h2; exact flat rfl rfl rfl) | (cases h2; done) | (obtain ⟨_, _, z, _⟩ := h2; cases z; done) | (obtain ⟨_, _, z⟩ := h2; cases z; done)
    | exn c => exact absurd h (by cases y <;> simp [MP.eqF, MP.kd])
    | tup xs =>
      unfold SimV at h1
      obtain ⟨a, vs, rfl, hs, _, hl⟩ := h1
      cases y with
      | tup ys =>
        unfold SimV at h2
        obtain ⟨a2, vs2, e, hs2, _, hl2⟩ := h2
        cases e
        have ev := I.tuple_inj hs hs2
        subst ev
        exact lists hl hl2 h
      | ref n =>
        unfold SimV at h2
        obtain ⟨a2, hr, e⟩ := h2
        cases e
        exfalso
        cases hm : mem[n]? with
        | none => simp [MP.eqF, MP.kd, hm] at h
        | some o =>
          have q := M.get hr hm
          cases o with
          | lst zs => obtain ⟨ws, q, _⟩ := q; exact sqT_not I hs q (by intro z; cases z) (by intro o z; cases z)
          | dct lk zs =>
            obtain ⟨ws, q, _⟩ := rd_dct q
            rcases q with q | ⟨o, q⟩
            · exact sqT_not I hs q (by intro z; cases z) (by intro o z; cases z)
            · exact sqT_not I hs q (by intro z; cases z) (by intro o z; cases z)
          | rol zs => simp [MP.eqF, MP.kd, hm] at h
          | ins C zs => simp [MP.eqF, MP.kd, hm] at h
      | exn c => simp [MP.eqF, MP.kd] at h
      | _ => unfold SimV at h2; cases h2
    | ref n =>
      unfold SimV at h1
      obtain ⟨a, hr, rfl⟩ := h1
      cases y with
      | ref k =>
        unfold SimV at h2
        obtain ⟨a2, hr2, e⟩ := h2
        cases e
        cases hm : mem[n]? with
        | none => simp [MP.eqF, hm] at h
        | some o =>
          cases hk : mem[k]? with
          | none => simp [MP.eqF, hm, hk] at h
          | some p =>
            cases ho : isRol o with
            | true => cases o <;> first | (cases ho; done) | (simp [MP.eqF, hm, hk] at h; done)
            | false =>
              cases hp : isRol p with
              | true => cases p <;> first | (cases hp; done) | (cases o <;> simp [MP.eqF, hm, hk] at h; done)
              | false =>
                have e := M.inj n k a o p hr hr2 hm hk ho hp
                subst e
                rw [hm] at hk; cases hk
                cases o <;> simp [MP.eqF, hm] at h <;> first | exact h.symm | exact h
      | tup ys =>
        unfold SimV at h2
        obtain ⟨a2, vs, e, hs, hl⟩ := h2
        cases e
        exfalso
        cases hm : mem[n]? with
        | none => simp [MP.eqF, MP.kd, hm] at h
        | some o =>
          have q := M.get hr hm
          cases o with
          | lst zs => obtain ⟨ws, q, _⟩ := q; exact sqT_not I hs q (by intro z; cases z) (by intro o z; cases z)
          | dct lk zs =>
            obtain ⟨ws, q, _⟩ := rd_dct q
            rcases q with q | ⟨o, q⟩
            · exact sqT_not I hs q (by intro z; cases z) (by intro o z; cases z)
            · exact sqT_not I hs q (by intro z; cases z) (by intro o z; cases z)
          | rol zs => simp [MP.eqF, MP.kd, hm] at h
          | ins C zs => simp [MP.eqF, MP.kd, hm] at h
      | exn c => simp [MP.eqF, MP.kd] at h
      | _ => unfold SimV at h2; cases h2

/-! a value as == meets it -/
inductive KdV (s : Shared) : MP.Kd → Value → Prop
  | non : KdV s .non .none
  | bl (b : Bool) : KdV s (.num (if b then 1 else 0)) (.bool b)
  | int (i : Int) (t : Tok) : KdV s (.num i) (.int i t)
  | str (x : Str) (t : Tok) : KdV s (.str x) (.str x t)
  | tup {a : Addr} {items : Array Value} : s.heap.IsTuple a items → KdV s .tup (.ref a)
  | lst {a : Addr} {items : Array Value} : s.heap.IsList a items → KdV s .lst (.ref a)
  | dct {a : Addr} : MLE.IsDct s.heap a → KdV s .dct (.ref a)
theorem kdV_of (M : SimM X.K X.mg rho H mem) (I : Inv X pins σ H s) {x : MV} {k : MP.Kd} {v : V} {u : Value} (h : MP.kd mem x = some k) (q : SimV X.K ex rho H x v) (r : RelV v u) : KdV s k u := by
  cases x with
  | non => cases h; unfold SimV at q; subst q; cases r; exact .non
  | bl b => cases h; unfold SimV at q; subst q; cases r; exact .bl b
  | int i => cases h; unfold SimV at q; subst q; obtain ⟨t, rfl⟩ := r; exact .int i t
  | str i => cases h; unfold SimV at q; subst q; obtain ⟨t, rfl⟩ := r; exact .str i t
  | exn c => cases h
  | tup xs =>
    cases h
    unfold SimV at q
    obtain ⟨a, vs, rfl, hs, _, _⟩ := q
    cases r
    obtain ⟨its, _, p, _⟩ := I.tuple hs
    exact .tup p
  | ref n =>
    unfold SimV at q
    obtain ⟨a, hr, rfl⟩ := q
    cases r
    cases hm : mem[n]? with
    | none => simp [MP.kd, hm] at h
    | some o =>
      have q := M.get hr hm
      cases o with
      | lst zs =>
        simp [MP.kd, hm] at h; subst h
        obtain ⟨ws, q, _⟩ := q
        obtain ⟨its, _, p, _⟩ := I.list (SqL.of q)
        exact .lst p.isList
      | dct lk zs =>
        simp [MP.kd, hm] at h; subst h
        obtain ⟨ws, q, _⟩ := rd_dct q
        exact .dct (isDct_at I q)
      | rol zs => simp [MP.kd, hm] at h
      | ins C zs => simp [MP.kd, hm] at h
theorem leaf_of {k l : MP.Kd} {u u' : Value} {b : Bool} {n : Nat} (h1 : KdV s k u) (h2 : KdV s l u') (h : MP.eqK k l = some b) : PySem.W.EqTree X.prog X.w s (n + 1) u u' b := by
  refine .leaf fun A hu => ?_
  have hu0 : A.units < cLine := by omega
  cases h1 <;> cases h2 <;> simp only [MP.eqK, Option.some.injEq, reduceCtorEq] at h <;> (try subst h)
  · exact SeqAt.EqAt.same _
  · exact SeqAt.EqAt.none_bool _
  · exact SeqAt.EqAt.none_int _ _
  · exact SeqAt.EqAt.none_str _ _
  · exact SeqAt.EqAt.none_tuple (by assumption) hu0
  · exact SeqAt.EqAt.none_list (by assumption) hu0
  · exact MLE.eq_none_dict (by assumption) hu0
  · exact SeqAt.EqAt.bool_none _
  · rename_i a c
    have e : decide ((if a = true then (1 : Int) else 0) = if c = true then 1 else 0) = (a == c) := by cases a <;> cases c <;> rfl
    rw [e]; exact SeqAt.EqAt.bool_bool a c
  · rename_i a i t
    have e : decide ((if a = true then (1 : Int) else 0) = i) = ((if a then 1 else 0) == i) := by rw [Bool.eq_iff_iff]; simp
    rw [e]; exact SeqAt.EqAt.bool_int a i t
  · exact SeqAt.EqAt.bool_str _ _ _
  · exact SeqAt.EqAt.bool_tuple _ (by assumption) hu0
  · exact SeqAt.EqAt.bool_list _ (by assumption) hu0
  · exact MLE.eq_bool_dict _ (by assumption) hu0
  · exact SeqAt.EqAt.int_none _ _
  · rename_i i t a
    have e : decide (i = if a = true then (1 : Int) else 0) = (i == (if a then 1 else 0)) := by rw [Bool.eq_iff_iff]; simp
    rw [e]; exact SeqAt.EqAt.int_bool i t a
  · rename_i i t j t'
    have e : decide (i = j) = (i == j) := by rw [Bool.eq_iff_iff]; simp
    rw [e]; exact SeqAt.EqAt.int_int i t j t'
  · exact SeqAt.EqAt.int_str _ _ _ _
  · exact SeqAt.EqAt.int_tuple _ _ (by assumption) hu0
  · exact SeqAt.EqAt.int_list _ _ (by assumption) hu0
  · exact MLE.eq_int_dict _ _ (by assumption) hu0
  · exact SeqAt.EqAt.str_none _ _
  · exact SeqAt.EqAt.str_bool _ _ _
  · exact SeqAt.EqAt.str_int _ _ _ _
  · rename_i i t j t'
    have e : decide (i = j) = (i == j) := by rw [Bool.eq_iff_iff]; simp
    rw [e]; exact SeqAt.EqAt.str_str i t j t'
  · exact SeqAt.EqAt.str_tuple _ _ (by assumption) hu0
  · exact SeqAt.EqAt.str_list _ _ (by assumption) hu0
  · exact MLE.eq_str_dict _ _ (by assumption) hu0
  · exact SeqAt.EqAt.tuple_none (by assumption) hu0
  · exact SeqAt.EqAt.tuple_bool _ (by assumption) hu0
  · exact SeqAt.EqAt.tuple_int _ _ (by assumption) hu0
  · exact SeqAt.EqAt.tuple_str _ _ (by assumption) hu0
  · exact SeqAt.EqAt.tuple_list (by assumption) (by assumption) hu0
  · exact MLE.eq_tuple_dict (by assumption) (by assumption) hu0
  · exact SeqAt.EqAt.list_none (by assumption) hu0
  · exact SeqAt.EqAt.list_bool _ (by assumption) hu0
  · exact SeqAt.EqAt.list_int _ _ (by assumption) hu0
  · exact SeqAt.EqAt.list_str _ _ (by assumption) hu0
  · exact SeqAt.EqAt.list_tuple (by assumption) (by assumption) hu0
  · exact MLE.eq_list_dict (by assumption) (by assumption) hu0
  · exact MLE.eq_dict_none (by assumption) hu0
  · exact MLE.eq_dict_bool _ (by assumption) hu0
  · exact MLE.eq_dict_int _ _ (by assumption) hu0
  · exact MLE.eq_dict_str _ _ (by assumption) hu0
  · exact MLE.eq_dict_tuple (by assumption) (by assumption) hu0
  · exact MLE.eq_dict_list (by assumption) (by assumption) hu0
end
end ML

/-! MLinkD: == and != as they are asked in the text. (Printed by gen_c2.py.) -/
namespace MLN
open PySem PySem.SeqAt
open AutoSeq1 (wpAny_loadPart')
open MeetsSeq MeetsSeq2 MeetsSeq3
section
variable {prog : Program} {w : World}
abbrev lob (its : Array Value) (n : Nat) (dd : Option Addr) (sl : Array (Option Value)) : Obj := { cls := .type "list", dict := dd, data := .seq its n, slots := sl }
abbrev tob (its : Array Value) (n : Nat) (dd : Option Addr) (sl : Array (Option Value)) : Obj := { cls := .type "tuple", dict := dd, data := .seq its n, slots := sl }
/-- the turns of != over two lists of one length -/
theorem turnsL {l b : Addr} {xs ys : Array Value} {n n2 : Nat} {dd dd2 : Option Addr} {sl sl2 : Array (Option Value)} (hsz : xs.size = ys.size) (e : Nat → Bool) (k : Nat) :
    ∀ i : Nat, xs.size - i = k → MeetsIn prog w (Builtin.«list.__eq__.loop» ⟨[.ref l, .ref b, rawInt i, rawInt 3], []⟩)
      (fun A R s => s.heap.get? l = some (lob xs n dd sl) ∧ s.heap.get? b = some (lob ys n2 dd2 sl2) ∧
        (∀ j (h1 : j < xs.size) (h2 : j < ys.size), EqIn prog w A.in1 s xs[j] ys[j] (e j)) ∧ R (.ok (.ret (.bool (!((List.range xs.size).drop i).all e)))) s) := by
  induction k with
  | zero =>
    intro i hk A R s h
    obtain ⟨hp, g, d, tk, os⟩ := s
    obtain ⟨hl, hb, he, h⟩ := h
    wp_walk using wpAny_loadPart' hl, wpAny_loadPart' hb
    have a1 : xs[((i : Nat) : Int).toNat]? = none := by simp; omega
    have a2 : ys[((i : Nat) : Int).toNat]? = none := by simp; omega
    have a3 : (List.range xs.size).drop i = [] := by simp; omega
    rw [a3] at h
    rw [a1, a2]
    wp_walk using wpAny_loadPart' hl, wpAny_loadPart' hb
    show R (.ok (.ret (.bool (xs.size != ys.size)))) _
    rw [hsz]
    simpa using h
  | succ k ih =>
    intro i hk A R s h
    obtain ⟨hp, g, d, tk, os⟩ := s
    obtain ⟨hl, hb, he, h⟩ := h
    wp_walk using wpAny_loadPart' hl, wpAny_loadPart' hb
    have l1 : i < xs.size := by omega
    have l2 : i < ys.size := by omega
    have a1 : xs[((i : Nat) : Int).toNat]? = some xs[i] := by simp [l1]
    have a2 : ys[((i : Nat) : Int).toNat]? = some ys[i] := by simp [l2]
    have a3 : (List.range xs.size).drop i = i :: (List.range xs.size).drop (i + 1) := by simp [List.drop_eq_getElem_cons, l1]
    have a4 : ((i : Int) + 1) = ((i + 1 : Nat) : Int) := by push_cast; rfl
    rw [a3, List.all_cons] at h
    rw [a1, a2]
    refine wpAny_bind (he i l1 l2 _ _ ?_)
    cases q : e i with
    | true =>
      rw [q] at h
      wp_walk
      rw [a4]
      refine ⟨plainId_quiet plain_eq_loop _, codeAny_builtin entry_eq_loop ?_⟩
      rw [Around.under_plainId plain_eq_loop _]
      exact ih (i + 1) (by omega) A R _ ⟨hl, hb, he, by simpa using h⟩
    | false =>
      rw [q] at h
      wp_walk using wpAny_loadPart' hl, wpAny_loadPart' hb
      rw [a1, a2]
      wp_walk
      simpa using h
theorem neL {l b : Addr} {xs ys : Array Value} {n n2 : Nat} {dd dd2 : Option Addr} {sl sl2 : Array (Option Value)} (hsz : xs.size = ys.size) (e : Nat → Bool) :
    MeetsIn prog w (Builtin.«list.__ne__» ⟨[.ref l, .ref b], []⟩) (fun A R s => s.heap.get? l = some (lob xs n dd sl) ∧ s.heap.get? b = some (lob ys n2 dd2 sl2) ∧
        (∀ j (h1 : j < xs.size) (h2 : j < ys.size), EqIn prog w A.in1 s xs[j] ys[j] (e j)) ∧ R (.ok (.ret (.bool (!(List.range xs.size).all e)))) s) := by
  intro A R s h
  obtain ⟨hp, g, d, tk, os⟩ := s
  obtain ⟨hl, hb, he, h⟩ := h
  have f3 := AutoSeq1.sub_list_list
  have hne : ¬ (xs.size != ys.size) = true := by simp [hsz]
  wp_walk using wpAny_loadPart' hl, wpAny_loadPart' hb
  refine ⟨plainId_quiet plain_eq_loop _, codeAny_builtin entry_eq_loop ?_⟩
  rw [Around.under_plainId plain_eq_loop _]
  exact turnsL hsz e _ 0 rfl A R _ ⟨hl, hb, he, by simpa using h⟩
theorem neT {l b : Addr} {xs ys : Array Value} {n n2 : Nat} {dd dd2 : Option Addr} {sl sl2 : Array (Option Value)} (e : Nat → Bool) :
    MeetsIn prog w (Builtin.«tuple.__ne__» ⟨[.ref l, .ref b], []⟩) (fun A R s => s.heap.get? l = some (tob xs n dd sl) ∧ s.heap.get? b = some (tob ys n2 dd2 sl2) ∧
        (∀ j (h1 : j < xs.size) (h2 : j < ys.size), EqIn prog w A.in1 s xs[j] ys[j] (e j)) ∧ R (.ok (.ret (.bool (!((List.range (min xs.size ys.size)).all e && xs.size == ys.size))))) s) :=
  .of_wp fun A R s h => by
    obtain ⟨hp, g, d, tk, os⟩ := s
    obtain ⟨hl, hb, he, h⟩ := h
    have f2 := AutoSeq1.sub_tuple_tuple
    have zl : (xs.toList.zip ys.toList).length = min xs.size ys.size := by simp
    wp_walk using wpAny_loadPart' hl, wpAny_loadPart' hb, wpAny_forIn_list _ (fun rest b s' => b.1 = none ∧ s' = ⟨hp, g, d, tk, os⟩ ∧ ∃ i, rest = (xs.toList.zip ys.toList).drop i ∧
      R (.ok (.ret (.bool (!(((List.range (min xs.size ys.size)).drop i).all e && xs.size == ys.size))))) ⟨hp, g, d, tk, os⟩) _
    case turn =>
      rintro ⟨y, x⟩ rest b s' ⟨hb', rfl, i, hz, hR⟩
      have lt : i < (xs.toList.zip ys.toList).length := by
        rcases Nat.lt_or_ge i (xs.toList.zip ys.toList).length with z | z
        · exact z
        · rw [List.drop_of_length_le z] at hz; cases hz
      have lm : i < min xs.size ys.size := zl ▸ lt
      have l1 : i < xs.size := Nat.lt_of_lt_of_le lm (Nat.min_le_left _ _)
      have l2 : i < ys.size := Nat.lt_of_lt_of_le lm (Nat.min_le_right _ _)
      rw [List.drop_eq_getElem_cons lt] at hz
      injection hz with hyx hrest
      have ey : y = xs[i] := by have := congrArg Prod.fst hyx; simpa using this
      have ex : x = ys[i] := by have := congrArg Prod.snd hyx; simpa using this
      subst ey ex
      have ed : (List.range (min xs.size ys.size)).drop i = i :: (List.range (min xs.size ys.size)).drop (i + 1) := by simp [List.drop_eq_getElem_cons, lm]
      rw [ed, List.all_cons] at hR
      refine wpAny_bind (he i l1 l2 _ _ ?_)
      cases q : e i with
      | true =>
        rw [q] at hR
        wp_walk
        exact ⟨rfl, rfl, i + 1, hrest, by simpa using hR⟩
      | false =>
        rw [q] at hR
        wp_walk
        exact ⟨_, rfl, by simpa using hR⟩
    case fin =>
      rintro ⟨b1, b2⟩ s' ⟨hb', rfl, i, hz, hR⟩
      simp only at hb'
      subst hb'
      have ge : min xs.size ys.size ≤ i := by
        rcases Nat.lt_or_ge i (xs.toList.zip ys.toList).length with z | z
        · rw [List.drop_eq_getElem_cons z] at hz; cases hz
        · exact zl ▸ z
      rw [List.drop_of_length_le (by simpa using ge)] at hR
      wp_walk
      exact ⟨_, rfl, by simpa [Builtin.Tuple.tupleCompareSizes, bne] using hR⟩
    case h =>
      exact ⟨rfl, rfl, 0, rfl, by simpa using h⟩
variable {A : Around} {E : Value → Shared → Prop} {s : Shared}
theorem ne_lists {l b : Addr} {xs ys : Array Value} {e : Nat → Bool} {Q : Value → Shared → Prop} (hl : s.heap.IsList l xs) (hb : s.heap.IsList b ys) (hsz : xs.size = ys.size) (hu : A.units < cLine)
    (he : ∀ j (h1 : j < xs.size) (h2 : j < ys.size), EqIn prog w A.in1 s xs[j] ys[j] (e j)) (h : Q (.bool (!(List.range xs.size).all e)) s) : wpAny (model prog w) A (richCompare .NotEq (.ref l) (.ref b)) Q E s := by
  obtain ⟨⟨c1, d1, t1, s1⟩, o1, h1, n1, e1⟩ := id hl
  obtain ⟨⟨c2, d2, t2, s2⟩, o2, h2, n2, e2⟩ := id hb
  simp only at h1 e1 h2 e2
  subst h1 e1 h2 e2
  refine wpAny_richCompare_same_room (T := "list") (op := .NotEq) ⟨_, o1, rfl⟩ ⟨_, o2, rfl⟩ F.slot_list_ne ?_ hu
  refine call_meetsIn F.slot_list_ne ⟨_, o1, rfl⟩ F.entry_list_ne (F.args_list_ne_2 _ _) (neL hsz e) ⟨o1, o2, he, ?_⟩
  exact (show Value.bool (!(List.range xs.size).all e) ≠ Value.notImplemented ∧ Q (.bool (!(List.range xs.size).all e)) s from ⟨(fun x => nomatch x), h⟩)
theorem ne_tuples {l b : Addr} {xs ys : Array Value} {e : Nat → Bool} {Q : Value → Shared → Prop} (hl : s.heap.IsTuple l xs) (hb : s.heap.IsTuple b ys) (hu : A.units < cLine)
    (he : ∀ j (h1 : j < xs.size) (h2 : j < ys.size), EqIn prog w A.in1 s xs[j] ys[j] (e j)) (h : Q (.bool (!((List.range (min xs.size ys.size)).all e && xs.size == ys.size))) s) :
    wpAny (model prog w) A (richCompare .NotEq (.ref l) (.ref b)) Q E s := by
  obtain ⟨⟨c1, d1, t1, s1⟩, o1, h1, n1, e1⟩ := id hl
  obtain ⟨⟨c2, d2, t2, s2⟩, o2, h2, n2, e2⟩ := id hb
  simp only at h1 e1 h2 e2
  subst h1 e1 h2 e2
  refine wpAny_richCompare_same_room (T := "tuple") (op := .NotEq) ⟨_, o1, rfl⟩ ⟨_, o2, rfl⟩ F.slot_tuple_ne ?_ hu
  refine call_meetsIn F.slot_tuple_ne ⟨_, o1, rfl⟩ F.entry_tuple_ne (F.args_tuple_ne_2 _ _) (neT e) ⟨o1, o2, he, ?_⟩
  exact (show Value.bool (!((List.range (min xs.size ys.size)).all e && xs.size == ys.size)) ≠ Value.notImplemented ∧ Q (.bool (!((List.range (min xs.size ys.size)).all e && xs.size == ys.size))) s from ⟨(fun x => nomatch x), h⟩)
theorem ne_dicts {K : Type} [DecidableEq K] {knd : KeyKind prog w K} {a b : Addr} {ka kb : List (K × Value)} {r : Bool} {Q : Value → Shared → Prop} (ha : (a == sysModules) = false) (hb : (b == sysModules) = false)
    (da : s.heap.DictOf knd a ka) (db : s.heap.DictOf knd b kb) (hu : A.units < cLine) (hits : ka.length = kb.length → PySem.W.KeqHitsIn prog w A.in1 s kb ka r) (h : Q (.bool (!(ka.length == kb.length && r))) s) :
    wpAny (model prog w) A (richCompare .NotEq (.ref a) (.ref b)) Q E s := by
  refine wpAny_richCompare_same_room (op := .NotEq) da.typeIs db.typeIs PySem.F.slot_dict_ne (wpAny_call_entry PySem.F.slot_dict_ne da.typeIs PySem.F.entry_dict_ne ?_ (PySem.F.args_dict_ne_2 _ _)) hu
  show wpAny _ _ (Builtin.Dict.dictSlotArgs "__ne__" ⟨[.ref a, .ref b], []⟩ >>= _) _ _ s
  refine wpAny_bind ?_
  unfold Builtin.Dict.dictSlotArgs
  refine wpAny_bind (wpAny_notOrdered_dict da.typeIs ?_)
  show wpAny _ _ (pure (Value.ref a, Value.ref b)) _ _ s
  refine wpAny_pure (wpAny_bind (wpAny_isInstance (T := "dict") db.typeIs PySem.F.sub_dict_dict ?_))
  simp only [Bool.not_true, Bool.false_eq_true, if_false]
  refine wpAny_bind (wpAny_pure (wpAny_bind (wpAny_pure (wpAny_bind (PySem.W.keq_samePairsIn ha hb da db hits ?_)))))
  refine wpAny_pure ⟨_, rfl, (fun x => nomatch x), ?_⟩
  simpa using h
end
end MLN
namespace ML
open PySem PySem.Spec PyProof.Rows L2
open MP (MV MO Mem Fr ME MA MT MS MG MI MFn Res SR)
section
variable {X : Cx} {pins : List (Addr × Obj)} {σ : L2.St} {H : Hp} {s : Shared} {rho : Rho} {mem : Mem} {ex : ExH}

theorem rc_leaf {k l : MP.Kd} {u u' : Value} {b : Bool} {A : Around} (h1 : KdV s k u) (h2 : KdV s l u') (h : MP.eqK k l = some b) (hu : A.units < cLine) : SeqAt.RcAt A s u u' b := by
  cases h1 <;> cases h2 <;> simp only [MP.eqK, Option.some.injEq, reduceCtorEq] at h <;> (try subst h)
  · exact SeqAt.RcAt.none_none
  · exact SeqAt.RcAt.none_bool _
  · exact SeqAt.RcAt.none_int _ _
  · exact SeqAt.RcAt.none_str _ _
  · exact SeqAt.RcAt.none_tuple (by assumption) hu
  · exact SeqAt.RcAt.none_list (by assumption) hu
  · exact MLE.rc_none_dict (by assumption) hu
  · exact SeqAt.RcAt.bool_none _
  · rename_i a c
    have e : decide ((if a = true then (1 : Int) else 0) = if c = true then 1 else 0) = (a == c) := by cases a <;> cases c <;> rfl
    rw [e]; exact SeqAt.RcAt.bool_bool a c
  · rename_i a i t
    have e : decide ((if a = true then (1 : Int) else 0) = i) = ((if a then 1 else 0) == i) := by rw [Bool.eq_iff_iff]; simp
    rw [e]; exact SeqAt.RcAt.bool_int a i t
  · exact SeqAt.RcAt.bool_str _ _ _
  · exact SeqAt.RcAt.bool_tuple _ (by assumption) hu
  · exact SeqAt.RcAt.bool_list _ (by assumption) hu
  · exact MLE.rc_bool_dict _ (by assumption) hu
  · exact SeqAt.RcAt.int_none _ _
  · rename_i i t a
    have e : decide (i = if a = true then (1 : Int) else 0) = (i == (if a then 1 else 0)) := by rw [Bool.eq_iff_iff]; simp
    rw [e]; exact SeqAt.RcAt.int_bool i t a
  · rename_i i t j t'
    have e : decide (i = j) = (i == j) := by rw [Bool.eq_iff_iff]; simp
    rw [e]; exact SeqAt.RcAt.int_int i t j t'
  · exact SeqAt.RcAt.int_str _ _ _ _
  · exact SeqAt.RcAt.int_tuple _ _ (by assumption) hu
  · exact SeqAt.RcAt.int_list _ _ (by assumption) hu
  · exact MLE.rc_int_dict _ _ (by assumption) hu
  · exact SeqAt.RcAt.str_none _ _
  · exact SeqAt.RcAt.str_bool _ _ _
  · exact SeqAt.RcAt.str_int _ _ _ _
  · rename_i i t j t'
    have e : decide (i = j) = (i == j) := by rw [Bool.eq_iff_iff]; simp
    rw [e]; exact SeqAt.RcAt.str_str i t j t'
  · exact SeqAt.RcAt.str_tuple _ _ (by assumption) hu
  · exact SeqAt.RcAt.str_list _ _ (by assumption) hu
  · exact MLE.rc_str_dict _ _ (by assumption) hu
  · exact SeqAt.RcAt.tuple_none (by assumption) hu
  · exact SeqAt.RcAt.tuple_bool _ (by assumption) hu
  · exact SeqAt.RcAt.tuple_int _ _ (by assumption) hu
  · exact SeqAt.RcAt.tuple_str _ _ (by assumption) hu
  · exact SeqAt.RcAt.tuple_list (by assumption) (by assumption) hu
  · exact MLE.rc_tuple_dict (by assumption) (by assumption) hu
  · exact SeqAt.RcAt.list_none (by assumption) hu
  · exact SeqAt.RcAt.list_bool _ (by assumption) hu
  · exact SeqAt.RcAt.list_int _ _ (by assumption) hu
  · exact SeqAt.RcAt.list_str _ _ (by assumption) hu
  · exact SeqAt.RcAt.list_tuple (by assumption) (by assumption) hu
  · exact MLE.rc_list_dict (by assumption) (by assumption) hu
  · exact MLE.rc_dict_none (by assumption) hu
  · exact MLE.rc_dict_bool _ (by assumption) hu
  · exact MLE.rc_dict_int _ _ (by assumption) hu
  · exact MLE.rc_dict_str _ _ (by assumption) hu
  · exact MLE.rc_dict_tuple (by assumption) (by assumption) hu
  · exact MLE.rc_dict_list (by assumption) (by assumption) hu
/-- != where neither is a dict -/
theorem rcne_leaf {k l : MP.Kd} {u u' : Value} {b : Bool} {A : Around} (h1 : KdV s k u) (h2 : KdV s l u') (h : MP.eqK k l = some b) (hu : A.units < cLine) (nk : k ≠ .dct) (nl : l ≠ .dct) : SeqAt.RcNeAt A s u u' (!b) := by
  cases h1 <;> cases h2 <;> simp only [MP.eqK, Option.some.injEq, reduceCtorEq] at h <;> (try subst h)
  · exact SeqAt.RcNeAt.none_none
  · exact SeqAt.RcNeAt.none_bool _
  · exact SeqAt.RcNeAt.none_int _ _
  · exact SeqAt.RcNeAt.none_str _ _
  · exact SeqAt.RcNeAt.none_tuple (by assumption) hu
  · exact SeqAt.RcNeAt.none_list (by assumption) hu
  · exact absurd rfl nl
  · exact SeqAt.RcNeAt.bool_none _
  · rename_i a c
    have e : decide ((if a = true then (1 : Int) else 0) = if c = true then 1 else 0) = (a == c) := by cases a <;> cases c <;> rfl
    rw [e]; exact SeqAt.RcNeAt.bool_bool a c
  · rename_i a i t
    have e : decide ((if a = true then (1 : Int) else 0) = i) = ((if a then 1 else 0) == i) := by rw [Bool.eq_iff_iff]; simp
    rw [e]; exact SeqAt.RcNeAt.bool_int a i t
  · exact SeqAt.RcNeAt.bool_str _ _ _
  · exact SeqAt.RcNeAt.bool_tuple _ (by assumption) hu
  · exact SeqAt.RcNeAt.bool_list _ (by assumption) hu
  · exact absurd rfl nl
  · exact SeqAt.RcNeAt.int_none _ _
  · rename_i i t a
    have e : decide (i = if a = true then (1 : Int) else 0) = (i == (if a then 1 else 0)) := by rw [Bool.eq_iff_iff]; simp
    rw [e]; exact SeqAt.RcNeAt.int_bool i t a
  · rename_i i t j t'
    have e : decide (i = j) = (i == j) := by rw [Bool.eq_iff_iff]; simp
    rw [e]; exact SeqAt.RcNeAt.int_int i t j t'
  · exact SeqAt.RcNeAt.int_str _ _ _ _
  · exact SeqAt.RcNeAt.int_tuple _ _ (by assumption) hu
  · exact SeqAt.RcNeAt.int_list _ _ (by assumption) hu
  · exact absurd rfl nl
  · exact SeqAt.RcNeAt.str_none _ _
  · exact SeqAt.RcNeAt.str_bool _ _ _
  · exact SeqAt.RcNeAt.str_int _ _ _ _
  · rename_i i t j t'
    have e : decide (i = j) = (i == j) := by rw [Bool.eq_iff_iff]; simp
    rw [e]; exact SeqAt.RcNeAt.str_str i t j t'
  · exact SeqAt.RcNeAt.str_tuple _ _ (by assumption) hu
  · exact SeqAt.RcNeAt.str_list _ _ (by assumption) hu
  · exact absurd rfl nl
  · exact SeqAt.RcNeAt.tuple_none (by assumption) hu
  · exact SeqAt.RcNeAt.tuple_bool _ (by assumption) hu
  · exact SeqAt.RcNeAt.tuple_int _ _ (by assumption) hu
  · exact SeqAt.RcNeAt.tuple_str _ _ (by assumption) hu
  · exact SeqAt.RcNeAt.tuple_list (by assumption) (by assumption) hu
  · exact absurd rfl nl
  · exact SeqAt.RcNeAt.list_none (by assumption) hu
  · exact SeqAt.RcNeAt.list_bool _ (by assumption) hu
  · exact SeqAt.RcNeAt.list_int _ _ (by assumption) hu
  · exact SeqAt.RcNeAt.list_str _ _ (by assumption) hu
  · exact SeqAt.RcNeAt.list_tuple (by assumption) (by assumption) hu
  · exact absurd rfl nl
  · exact absurd rfl nk
  · exact absurd rfl nk
  · exact absurd rfl nk
  · exact absurd rfl nk
  · exact absurd rfl nk
  · exact absurd rfl nk
theorem SimP.keys {α : Type} {xs : List (α × MV)} {vs : List (α × V)} (h : SimP X.K ex rho H xs vs) : xs.map (·.1) = vs.map (·.1) := by
  induction h with
  | nil => rfl
  | cons r t ih => rw [List.map_cons, List.map_cons, ih, r.1]
abbrev Tr (X : Cx) (s : Shared) (n : Nat) (u u' : Value) (b : Bool) : Prop := ∀ A : Around, A.units + n < cLine → SeqAt.EqIn X.prog X.w A s u u' b
theorem Tr.leaf {n : Nat} {u u' : Value} {b : Bool} (h : PySem.W.EqTree X.prog X.w s n u u' b) : Tr X s n u u' b := h.at
theorem Tr.same {n : Nat} {u : Value} : Tr X s n u u true := fun A hu => (SeqAt.EqAt.same _).inModel X.prog X.w
theorem Tr.lists {n : Nat} {l l' : Addr} {vs vs' : Array Value} {e : Nat → Bool} (hne : l ≠ l') (hl : s.heap.IsList l vs) (hl' : s.heap.IsList l' vs') (hsz : vs.size = vs'.size) (ih : ∀ j (h1 : j < vs.size) (h2 : j < vs'.size), Tr X s n vs[j] vs'[j] (e j)) :
    Tr X s (n + 1) (.ref l) (.ref l') ((List.range vs.size).all e) := fun A hu =>
  SeqAt.EqIn.of_refs hne fun E Q hq => SeqAt.rcIn_lists hl hl' hsz (by omega) (fun j h1 h2 => ih j h1 h2 A.in1 (by show A.units + 1 + _ < cLine; omega)) hq
theorem Tr.listsLen {n : Nat} {l l' : Addr} {vs vs' : Array Value} (hne : l ≠ l') (hl : s.heap.IsList l vs) (hl' : s.heap.IsList l' vs') (hsz : (vs.size != vs'.size) = true) : Tr X s (n + 1) (.ref l) (.ref l') false := fun A hu =>
  (SeqAt.EqAt.of_refs hne (SeqAt.RcAt.lists_lengths hl hl' hsz (by omega))).inModel X.prog X.w
theorem Tr.tuples {n : Nat} {l l' : Addr} {vs vs' : Array Value} {e : Nat → Bool} (hne : l ≠ l') (hl : s.heap.IsTuple l vs) (hl' : s.heap.IsTuple l' vs') (ih : ∀ j (h1 : j < vs.size) (h2 : j < vs'.size), Tr X s n vs[j] vs'[j] (e j)) :
    Tr X s (n + 1) (.ref l) (.ref l') ((List.range (min vs.size vs'.size)).all e && vs.size == vs'.size) := fun A hu =>
  SeqAt.EqIn.of_refs hne fun E Q hq => SeqAt.rcIn_tuples hl hl' (by omega) (fun j h1 h2 => ih j h1 h2 A.in1 (by show A.units + 1 + _ < cLine; omega)) hq
theorem Tr.dicts {K : Type} [DecidableEq K] {knd : KeyKind X.prog X.w K} {n : Nat} {a b : Addr} {ka kb : List (K × Value)} {r : Bool} (hne : a ≠ b) (ha : (a == sysModules) = false) (hb : (b == sysModules) = false) (da : s.heap.DictOf knd a ka) (db : s.heap.DictOf knd b kb)
    (hits : ka.length = kb.length → ∀ A : Around, A.units + n < cLine → PySem.W.KeqHitsIn X.prog X.w A s kb ka r) : Tr X s (n + 1) (.ref a) (.ref b) (ka.length == kb.length && r) := fun A hu =>
  SeqAt.EqIn.of_refs hne fun E Q hq => PySem.W.keq_eqIn ha hb da db (by omega) (fun e => hits e A.in1 (by show A.units + 1 + _ < cLine; omega)) hq
/-- asked in the text -/
def rEqM (X : Cx) : R2 := fun x y H Q => ∃ (ex : ExH) (rho : Rho) (mem : Mem) (a b : MV) (k : Bool), SimM X.K X.mg rho H mem ∧ SimV X.K ex rho H a x ∧ SimV X.K ex rho H b y ∧ MP.eqF MP.DEEP mem a b = some k ∧ Q (.bl k) H
def rNeM (X : Cx) : R2 := fun x y H Q => ∃ (ex : ExH) (rho : Rho) (mem : Mem) (a b : MV) (k : Bool), SimM X.K X.mg rho H mem ∧ SimV X.K ex rho H a x ∧ SimV X.K ex rho H b y ∧ MP.neF MP.DEEP mem a b = some k ∧ Q (.bl k) H
/-- the two lists, tuples, dicts at the top -/
inductive Top (X : Cx) (s : Shared) (d : Nat) : Value → Value → Bool → Prop
  | flat {k l : MP.Kd} {u u' : Value} {b : Bool} : KdV s k u → KdV s l u' → MP.eqK k l = some b → Top X s d u u' b
  | lists {l l' : Addr} {vs vs' : Array Value} {e : Nat → Bool} : s.heap.IsList l vs → s.heap.IsList l' vs' → vs.size = vs'.size → (∀ j (h1 : j < vs.size) (h2 : j < vs'.size), Tr X s d vs[j] vs'[j] (e j)) → Top X s d (.ref l) (.ref l') ((List.range vs.size).all e)
  | listsLen {l l' : Addr} {vs vs' : Array Value} : s.heap.IsList l vs → s.heap.IsList l' vs' → (vs.size != vs'.size) = true → Top X s d (.ref l) (.ref l') false
  | tuples {l l' : Addr} {vs vs' : Array Value} {e : Nat → Bool} : s.heap.IsTuple l vs → s.heap.IsTuple l' vs' → (∀ j (h1 : j < vs.size) (h2 : j < vs'.size), Tr X s d vs[j] vs'[j] (e j)) → Top X s d (.ref l) (.ref l') ((List.range (min vs.size vs'.size)).all e && vs.size == vs'.size)
  | dicts {a b : Addr} {ka kb : List (Key × Value)} {r : Bool} : (a == sysModules) = false → (b == sysModules) = false → s.heap.DictOf (mixKind X.prog X.w) a ka → s.heap.DictOf (mixKind X.prog X.w) b kb →
      (ka.length = kb.length → ∀ A : Around, A.units + d < cLine → PySem.W.KeqHitsIn X.prog X.w A s kb ka r) → Top X s d (.ref a) (.ref b) (ka.length == kb.length && r)
theorem valueAt_at {K : Type} [DecidableEq K] : ∀ {us : List (K × Value)} {k : K} {v : Value}, (us.map (·.1)).Nodup → (k, v) ∈ us → valueAt us k = some v
  | [], k, v, _, h => by cases h
  | (k0, v0) :: r, k, v, nd, h => by
    unfold valueAt
    rw [List.find?_cons]
    rcases List.mem_cons.mp h with z | z
    · cases z; simp
    · have hne : ¬ k0 = k := fun q => (List.nodup_cons.mp nd).1 (List.mem_map.mpr ⟨(k, v), z, q.symm⟩)
      simp only [hne, decide_false]
      exact valueAt_at (List.nodup_cons.mp nd).2 z
/-- the comparison's tree -/
theorem top_of (M : SimM X.K X.mg rho H mem) (I : Inv X pins σ H s) {d : Nat} (ih : ∀ {x y : MV} {v w : V} {u u' : Value} {b : Bool}, SimV X.K ex rho H x v → SimV X.K ex rho H y w → RelV v u → RelV w u' → MP.eqF d mem x y = some b → Tr X s d u u' b)
    {x y : MV} {v w : V} {u u' : Value} {b : Bool} (q1 : SimV X.K ex rho H x v) (q2 : SimV X.K ex rho H y w) (r1 : RelV v u) (r2 : RelV w u') (h : MP.eqF (d + 1) mem x y = some b) : Top X s d u u' b := by
  have flat : ∀ {k l : MP.Kd}, MP.kd mem x = some k → MP.kd mem y = some l → MP.eqF (d + 1) mem x y = MP.eqK k l → Top X s d u u' b := fun {k l} e1 e2 e3 =>
    .flat (kdV_of M I e1 q1 r1) (kdV_of M I e2 q2 r2) (by rw [← e3]; exact h)
  have items : ∀ {xs ys : List MV} {vs ws : List V} {us us' : List Value}, SimL X.K ex rho H xs vs → SimL X.K ex rho H ys ws → Vals vs us → Vals ws us' → ∀ {f : Nat → Bool}, (∀ (j : Nat) (x y : MV), xs[j]? = some x → ys[j]? = some y → MP.eqF d mem x y = some (f j)) →
      ∀ j (h1 : j < us.toArray.size) (h2 : j < us'.toArray.size), Tr X s d us.toArray[j] us'.toArray[j] (f j) := fun {xs ys vs ws us us'} l1 l2 p1 p2 {f} hf j h1 h2 => by
    have e1 : j < xs.length := by rw [l1.length, p1.length]; simpa using h1
    have e2 : j < ys.length := by rw [l2.length, p2.length]; simpa using h2
    obtain ⟨v1, g1, s1⟩ := l1.get (List.getElem?_eq_getElem e1)
    obtain ⟨v2, g2, s2⟩ := l2.get (List.getElem?_eq_getElem e2)
    obtain ⟨a1, k1, t1⟩ := p1.get g1
    obtain ⟨a2, k2, t2⟩ := p2.get g2
    have z1 : us.toArray[j] = a1 := by
      have := (List.getElem?_eq_some_iff.mp k1).2
      simpa using this
    have z2 : us'.toArray[j] = a2 := by
      have := (List.getElem?_eq_some_iff.mp k2).2
      simpa using this
    rw [z1, z2]
    exact ih s1 s2 t1 t2 (hf j _ _ (List.getElem?_eq_getElem e1) (List.getElem?_eq_getElem e2))
  by_cases hx : ∃ xs, x = .tup xs
  · obtain ⟨xs, rfl⟩ := hx
    by_cases hy : ∃ ys, y = .tup ys
    · obtain ⟨ys, rfl⟩ := hy
      have hb := h
      unfold MP.eqF at h
      have q1' := q1
      have q2' := q2
      unfold SimV at q1' q2'
      obtain ⟨a, vs, rfl, hs, _, hl⟩ := q1'
      obtain ⟨a2, vs2, rfl, hs2, _, hl2⟩ := q2'
      cases r1; cases r2
      obtain ⟨its, p1, t1, _⟩ := I.tuple hs
      obtain ⟨its2, p2, t2, _⟩ := I.tuple hs2
      obtain ⟨f, hf, rfl⟩ := eqL_some h
      have z1 : its.toArray.size = xs.length := by rw [List.size_toArray, ← p1.length, hl.length]
      have z2 : its2.toArray.size = ys.length := by rw [List.size_toArray, ← p2.length, hl2.length]
      rw [← z1, ← z2]
      exact Top.tuples t1 t2 (items hl hl2 p1 p2 hf)
    · cases hk : MP.kd mem y with
      | none => cases y <;> first | (exact absurd ⟨_, rfl⟩ hy) | (simp [MP.eqF, MP.kd] at h hk; done) | (simp [MP.eqF, hk] at h; done)
      | some l => exact flat rfl hk (by cases y <;> first | (exact absurd ⟨_, rfl⟩ hy) | (simp only [MP.eqF, hk]; rfl))
  · by_cases hx2 : ∃ n, x = .ref n
    · obtain ⟨n, rfl⟩ := hx2
      by_cases hy2 : ∃ k, y = .ref k
      · obtain ⟨k, rfl⟩ := hy2
        have hb := h
        have q1' := q1
        have q2' := q2
        unfold SimV at q1' q2'
        obtain ⟨a, hr, rfl⟩ := q1'
        obtain ⟨a2, hr2, rfl⟩ := q2'
        cases r1; cases r2
        by_cases hnk : n = k
        · subst hnk
          rw [hr] at hr2; cases hr2
          cases hm : mem[n]? with
          | none => simp [MP.eqF, hm] at h
          | some o =>
            have g1 := M.get hr hm
            cases o with
            | rol xs => simp [MP.eqF, hm] at h
            | ins C xs => simp [MP.eqF, hm] at h
            | lst xs =>
              simp only [MP.eqF, hm, if_true, Option.some.injEq] at h
              obtain ⟨vs, e1, l1⟩ := g1
              obtain ⟨its, p1, t1, _⟩ := I.list (SqL.of e1)
              have e3 : b = (List.range its.toArray.size).all fun _ => true := by rw [← h]; simp
              rw [e3]
              exact Top.lists t1.isList t1.isList rfl fun j h1 h2 => Tr.same
            | dct lk xs =>
              simp only [MP.eqF, hm, if_true, Option.some.injEq] at h
              obtain ⟨vs, e1, l1⟩ := rd_dct g1
              obtain ⟨_, y1, us, p1, d1⟩ := dk_rd I.hok e1
              have nd : (us.map (·.1)).Nodup := by
                obtain ⟨_, _, _, _, _, _, _, _, z⟩ := d1
                exact z
              have e3 : b = (us.length == us.length && us.all fun p => (valueAt us p.1).isSome && (fun _ => true) p.1) := by
                rw [← h, beq_self_eq_true, Bool.true_and]
                symm
                rw [List.all_eq_true]
                intro p hp
                have : valueAt us p.1 = some p.2 := valueAt_at nd hp
                rw [this]; rfl
              rw [e3]
              refine Top.dicts y1 y1 d1 d1 fun _ A hA => PySem.W.KeqHitsIn.of (e := fun _ => true) _ fun kk v1 w1 hm1 hw1 => ?_
              have : valueAt us kk = some v1 := valueAt_at nd hm1
              rw [this] at hw1; cases hw1
              exact (SeqAt.EqAt.same _).inModel X.prog X.w
        · cases hm : mem[n]? with
          | none => simp [MP.eqF, hm] at h
          | some o =>
            cases hm2 : mem[k]? with
            | none => simp [MP.eqF, hm, hm2] at h
            | some o2 =>
              have g1 := M.get hr hm
              have g2 := M.get hr2 hm2
              cases o with
              | rol xs => simp [MP.eqF, hm] at h
              | ins C xs => simp [MP.eqF, hm] at h
              | lst xs =>
                cases o2 with
                | rol ys => simp [MP.eqF, hm, hm2] at h
                | ins C ys => simp [MP.eqF, hm, hm2] at h
                | lst ys =>
                  obtain ⟨vs, e1, l1⟩ := g1
                  obtain ⟨ws, e2, l2⟩ := g2
                  obtain ⟨its, p1, t1, _⟩ := I.list (SqL.of e1)
                  obtain ⟨its2, p2, t2, _⟩ := I.list (SqL.of e2)
                  have z1 : its.toArray.size = xs.length := by rw [List.size_toArray, ← p1.length, l1.length]
                  have z2 : its2.toArray.size = ys.length := by rw [List.size_toArray, ← p2.length, l2.length]
                  simp only [MP.eqF, hm, hm2, if_neg hnk] at h
                  by_cases hz : xs.length = ys.length
                  · rw [if_pos hz] at h
                    obtain ⟨f, hf, rfl⟩ := eqL_some h
                    have e3 : ((List.range (min xs.length ys.length)).all f && xs.length == ys.length) = (List.range its.toArray.size).all f := by
                      rw [hz, Nat.min_self, z1, hz]; simp
                    rw [e3]
                    exact Top.lists t1.isList t2.isList (by rw [z1, z2, hz]) (items (SimL.ex0 ex l1) (SimL.ex0 ex l2) p1 p2 hf)
                  · rw [if_neg hz] at h
                    cases h
                    exact Top.listsLen t1.isList t2.isList (by rw [z1, z2]; simpa using hz)
                | dct lk ys =>
                  simp only [MP.eqF, hm, hm2] at h
                  exact flat (k := .lst) (l := .dct) (by simp [MP.kd, hm]) (by simp [MP.kd, hm2]) (by simp [MP.eqF, hm, hm2, MP.eqK])
              | dct lk xs =>
                cases o2 with
                | rol ys => simp [MP.eqF, hm, hm2] at h
                | ins C ys => simp [MP.eqF, hm, hm2] at h
                | lst ys =>
                  exact flat (k := .dct) (l := .lst) (by simp [MP.kd, hm]) (by simp [MP.kd, hm2]) (by simp [MP.eqF, hm, hm2, MP.eqK])
                | dct lk2 ys =>
                  obtain ⟨vs, e1, l1⟩ := rd_dct g1
                  obtain ⟨ws, e2, l2⟩ := rd_dct g2
                  obtain ⟨_, y1, us, p1, d1⟩ := dk_rd I.hok e1
                  obtain ⟨_, y2, us2, p2, d2⟩ := dk_rd I.hok e2
                  have z1 : us.length = xs.length := by rw [← p1.length, l1.length]
                  have z2 : us2.length = ys.length := by rw [← p2.length, l2.length]
                  simp only [MP.eqF, hm, hm2, if_neg hnk] at h
                  by_cases hz : xs.length = ys.length
                  · rw [if_pos hz] at h
                    have kk1 : xs.map (·.1) = us.map (·.1) := by rw [SimP.keys l1, p1.keys]
                    have nd : (xs.map (·.1)).Nodup := by
                      rw [kk1]
                      obtain ⟨_, _, _, _, _, _, _, _, z⟩ := d1
                      exact z
                    obtain ⟨f, hf, rfl⟩ := eqD_some h nd
                    have each : ∀ k : Key, (MP.getK ys k).isSome = (valueAt us2 k).isSome := fun k => by
                      have q := p2.val k
                      rcases SimK.find k l2 with ⟨a1, a2⟩ | ⟨x1, v1, a1, a2, _⟩
                      · rw [a1, (RelO.none_of (o := valueAt us2 k) (by rw [← a2]; exact q))]; rfl
                      · obtain ⟨u1, b1, _⟩ := RelO.some_of (v := v1) (o := valueAt us2 k) (by rw [← a2]; exact q)
                        rw [a1, b1]; rfl
                    have e3 : (xs.all fun p => (MP.getK ys p.1).isSome && f p.1) = (us.length == us2.length && us.all fun p => (valueAt us2 p.1).isSome && f p.1) := by
                      rw [z1, z2, hz, beq_self_eq_true, Bool.true_and]
                      have g : ∀ (l : List Key), (l.all fun k => (MP.getK ys k).isSome && f k) = (l.all fun k => (valueAt us2 k).isSome && f k) := fun l => by
                        induction l with
                        | nil => rfl
                        | cons a l ih => rw [List.all_cons, List.all_cons, ih, each a]
                      have a1 : (xs.all fun p => (MP.getK ys p.1).isSome && f p.1) = ((xs.map (·.1)).all fun k => (MP.getK ys k).isSome && f k) := by rw [List.all_map]; rfl
                      have a2 : (us.all fun p => (valueAt us2 p.1).isSome && f p.1) = ((us.map (·.1)).all fun k => (valueAt us2 k).isSome && f k) := by rw [List.all_map]; rfl
                      rw [a1, a2, kk1, g]
                    rw [e3]
                    refine Top.dicts y1 y2 d1 d2 fun _ A hA => PySem.W.KeqHitsIn.of _ fun kk v1 w1 hm1 hw1 => ?_
                    obtain ⟨i, hi⟩ := List.getElem?_of_mem hm1
                    have hlt : i < xs.length := by
                      have := (List.getElem?_eq_some_iff.mp hi).1
                      omega
                    have hlt2 : i < vs.length := by rw [← l1.length]; exact hlt
                    obtain ⟨p, hp, t1⟩ := paired_get l1 (List.getElem?_eq_getElem hlt)
                    obtain ⟨r, hr1, t2⟩ := paired_get p1 hp
                    rw [hi] at hr1; cases hr1
                    have ek : xs[i].1 = kk := t1.1.trans t2.1
                    have q := p2.val kk
                    rcases SimK.find kk l2 with ⟨a1, a2⟩ | ⟨x1, v2, a1, a2, a3⟩
                    · have z := RelO.none_of (o := valueAt us2 kk) (by rw [← a2]; exact q)
                      rw [hw1] at z; cases z
                    · obtain ⟨u1, b1, b2⟩ := RelO.some_of (v := v2) (o := valueAt us2 kk) (by rw [← a2]; exact q)
                      rw [hw1] at b1; cases b1
                      exact ih (SimV.ex0 ex t1.2) (SimV.ex0 ex a3) t2.2 b2 (hf kk _ _ (by rw [← ek]; exact List.getElem_mem hlt) a1) A hA
                  · rw [if_neg hz] at h
                    cases h
                    have e4 : (us.length == us2.length) = false := by rw [z1, z2]; simpa using hz
                    have e3 : false = (us.length == us2.length && true) := by rw [e4, Bool.false_and]
                    rw [e3]
                    exact Top.dicts y1 y2 d1 d2 fun e => absurd (show xs.length = ys.length by rw [← z1, ← z2]; exact e) hz
      · cases hk : MP.kd mem y with
        | none => cases y <;> first | (exact absurd ⟨_, rfl⟩ hy2) | (simp [MP.eqF, MP.kd] at h hk; done) | (simp only [MP.eqF, hk] at h; split at h <;> simp at h; done) | (simp [MP.eqF, MP.kd] at h; done)
        | some l =>
          cases hk2 : MP.kd mem (.ref n) with
          | none => cases y <;> first | (exact absurd ⟨_, rfl⟩ hy2) | (simp [MP.eqF, hk2] at h; done)
          | some k0 => exact flat hk2 hk (by cases y <;> first | (exact absurd ⟨_, rfl⟩ hy2) | (simp only [MP.eqF, hk2, hk]))
    · cases hk : MP.kd mem y with
      | none => cases x <;> first | (exact absurd ⟨_, rfl⟩ hx) | (exact absurd ⟨_, rfl⟩ hx2) | (simp [MP.eqF, hk] at h; done)
      | some l =>
        cases hk2 : MP.kd mem x with
        | none => cases x <;> first | (exact absurd ⟨_, rfl⟩ hx) | (exact absurd ⟨_, rfl⟩ hx2) | (simp [MP.eqF, hk2] at h; done)
        | some k0 => exact flat hk2 hk (by cases x <;> first | (exact absurd ⟨_, rfl⟩ hx) | (exact absurd ⟨_, rfl⟩ hx2) | (simp only [MP.eqF, hk2, hk]))
theorem eq_tree (M : SimM X.K X.mg rho H mem) (I : Inv X pins σ H s) : ∀ (d : Nat) {x y : MV} {v w : V} {u u' : Value} {b : Bool}, SimV X.K ex rho H x v → SimV X.K ex rho H y w → RelV v u → RelV w u' → MP.eqF d mem x y = some b → Tr X s d u u' b := by
  intro d
  induction d with
  | zero => intro x y v w u u' b _ _ _ _ h; simp [MP.eqF] at h
  | succ d ih =>
    intro x y v w u u' b q1 q2 r1 r2 h
    by_cases hu : u = u'
    · subst hu
      have e := r1.inj r2
      subst e
      rw [eqF_same M I (d + 1) q1 q2 h]
      exact Tr.same
    · have t := top_of M I ih q1 q2 r1 r2 h
      cases t with
      | flat h1 h2 h3 => exact Tr.leaf (leaf_of h1 h2 h3)
      | lists hl hl' hsz ih' => exact Tr.lists (fun z => hu (by rw [z])) hl hl' hsz ih'
      | listsLen hl hl' hsz => exact Tr.listsLen (fun z => hu (by rw [z])) hl hl' hsz
      | tuples hl hl' ih' => exact Tr.tuples (fun z => hu (by rw [z])) hl hl' ih'
      | dicts ha hb da db hits => exact Tr.dicts (fun z => hu (by rw [z])) ha hb da db hits
theorem Top.eq {d : Nat} {u u' : Value} {b : Bool} (t : Top X s d u u' b) {A : Around} (hu : A.units + (d + 1) < cLine) {E Q : Value → Shared → Prop} (h : Q (.bool b) s) : wpAny (model X.prog X.w) A (compareOp .Eq u u') Q E s := by
  cases t with
  | flat h1 h2 h3 => exact rc_leaf h1 h2 h3 (by omega) X.prog X.w E Q h
  | lists hl hl' hsz ih => exact SeqAt.rcIn_lists hl hl' hsz (by omega) (fun j h1 h2 => ih j h1 h2 A.in1 (by show A.units + 1 + _ < cLine; omega)) h
  | listsLen hl hl' hsz => exact SeqAt.RcAt.lists_lengths hl hl' hsz (by omega) X.prog X.w E Q h
  | tuples hl hl' ih => exact SeqAt.rcIn_tuples hl hl' (by omega) (fun j h1 h2 => ih j h1 h2 A.in1 (by show A.units + 1 + _ < cLine; omega)) h
  | dicts ha hb da db hits => exact PySem.W.keq_eqIn ha hb da db (by omega) (fun e => hits e A.in1 (by show A.units + 1 + _ < cLine; omega)) h
theorem Top.ne {d : Nat} {u u' : Value} {b : Bool} (t : Top X s d u u' b) (nd : ∀ k l, KdV s k u → KdV s l u' → MP.eqK k l = some b → k ≠ .dct ∧ l ≠ .dct) {A : Around} (hu : A.units + (d + 1) < cLine) {E Q : Value → Shared → Prop} (h : Q (.bool (!b)) s) :
    wpAny (model X.prog X.w) A (compareOp .NotEq u u') Q E s := by
  cases t with
  | flat h1 h2 h3 => obtain ⟨n1, n2⟩ := nd _ _ h1 h2 h3; exact rcne_leaf h1 h2 h3 (by omega) n1 n2 X.prog X.w E Q h
  | lists hl hl' hsz ih => exact MLN.ne_lists hl hl' hsz (by omega) (fun j h1 h2 => ih j h1 h2 A.in1 (by show A.units + 1 + _ < cLine; omega)) h
  | listsLen hl hl' hsz => exact SeqAt.RcNeAt.lists_lengths hl hl' hsz (by omega) X.prog X.w E Q h
  | tuples hl hl' ih => exact MLN.ne_tuples hl hl' (by omega) (fun j h1 h2 => ih j h1 h2 A.in1 (by show A.units + 1 + _ < cLine; omega)) h
  | dicts ha hb da db hits => exact MLN.ne_dicts ha hb da db (by omega) (fun e => hits e A.in1 (by show A.units + 1 + _ < cLine; omega)) h
theorem op_eqM (hu : X.A.units + 64 < cLine) : OpR X (compareOp .Eq) (rEqM X) := by
  intro pins s σ H x y v u Q I rx ry h
  obtain ⟨ex, rho, mem, a, b, k, M, q1, q2, e, q⟩ := h
  exact (top_of M I (fun a1 a2 a3 a4 a5 => eq_tree M I _ a1 a2 a3 a4 a5) q1 q2 rx ry e).eq (by omega) ⟨.bl k, H, I, rfl, q⟩
theorem op_neM (hu : X.A.units + 64 < cLine) : OpR X (compareOp .NotEq) (rNeM X) := by
  intro pins s σ H x y v u Q I rx ry h
  obtain ⟨ex, rho, mem, a, b, k, M, q1, q2, e, q⟩ := h
  unfold MP.neF at e
  cases h1 : MP.kd mem a with
  | none => rw [h1] at e; simp at e
  | some l1 =>
    cases h2 : MP.kd mem b with
    | none => rw [h1, h2] at e; simp at e
    | some l2 =>
      rw [h1, h2] at e
      by_cases hd : MP.isD l1 = MP.isD l2
      · simp only [hd, if_true] at e
        obtain ⟨k0, e1, e2⟩ := Option.map_eq_some_iff.mp e
        subst e2
        refine (top_of M I (fun a1 a2 a3 a4 a5 => eq_tree M I _ a1 a2 a3 a4 a5) q1 q2 rx ry e1).ne (fun k l v1 v2 e3 => ?_) (by omega) ⟨.bl (!k0), H, I, rfl, q⟩
        have c1 := kdV_of M I h1 q1 rx
        have c2 := kdV_of M I h2 q2 ry
        have key : ∀ {k l : MP.Kd} {u : Value}, KdV s k u → KdV s l u → MP.isD k = MP.isD l := fun {k l u} d1 d2 => by
          cases d1 <;> cases d2 <;> first | rfl | skip
          · rename_i i1 i2; exact (MLE.ne_dict_tuple i2 i1 rfl).elim
          · rename_i i1 i2; exact (MLE.ne_dict_list i2 i1 rfl).elim
          · rename_i i1 _ i2; exact (MLE.ne_dict_tuple i1 i2 rfl).elim
          · rename_i i1 _ i2; exact (MLE.ne_dict_list i1 i2 rfl).elim
        have e4 := key v1 c1
        have e5 := key v2 c2
        constructor
        · intro z; subst z
          have : MP.isD l = true := by rw [e5, ← hd, ← e4]; rfl
          cases l <;> first | (cases this; done) | cases e3
        · intro z; subst z
          have : MP.isD k = true := by rw [e4, hd, ← e5]; rfl
          cases k <;> first | (cases this; done) | cases e3
      · simp only [hd, if_false] at e
        cases l1 <;> cases l2 <;> first | (cases e; done) | skip
        cases e
        have c1 := kdV_of M I h1 q1 rx
        have c2 := kdV_of M I h2 q2 ry
        cases c1
        cases c2
        rename_i z t l i
        exact MLE.rcne_str_dict z t i (by omega) X.prog X.w X.xe _ ⟨.bl true, H, I, rfl, q⟩
end
end ML

/-! MLinkE: the operators' readings do what MP tells. -/
namespace ML
open PySem PySem.Spec PyProof.Rows L2
open MP (MV MO Mem Fr ME MA MT MS MG MI MFn Res SR)

/-! ### what stands behind a reference -/
section
variable {K : PySem.W.Frag} {mg : Str → Option Value} {ex : ExH} {rho : Rho} {H : Hp} {mem : Mem} {n : Nat} {v : V}
theorem ref_at (q : SimV K ex rho H (.ref n) v) : ∃ a, rho[n]? = some a ∧ v = .ref a := by unfold SimV at q; exact q
theorem tup_at {xs : List MV} (q : SimV K ex rho H (.tup xs) v) : ∃ a vs, v = .ref a ∧ SqT K H a vs ∧ SimL K ex rho H xs vs := by
  unfold SimV at q
  obtain ⟨a, vs, h1, h2, _, h3⟩ := q
  exact ⟨a, vs, h1, h2, h3⟩
theorem no_pairs_key {K : PySem.W.Frag} {H : Hp} {a : Addr} {k : Key} {x : MV} : MP.pairsOf [MP.ofKey k, x] ≠ none → Pln K H a := fun z => by
  cases k <;> exact absurd rfl z
theorem tup_pln {xs : List MV} (q : SimV K ex rho H (.tup xs) v) (hp : MP.pairsOf xs ≠ none) : ∃ a vs, v = .ref a ∧ SqT K H a vs ∧ Pln K H a ∧ SimL K ex rho H xs vs := by
  unfold SimV at q
  obtain ⟨a, vs, h1, h2, h4, h3⟩ := q
  exact ⟨a, vs, h1, h2, h4 hp, h3⟩
theorem int_at {i : Int} (q : SimV K ex rho H (.int i) v) : v = .int i := by unfold SimV at q; exact q
theorem str_at {i : Str} (q : SimV K ex rho H (.str i) v) : v = .str i := by unfold SimV at q; exact q
theorem bl_at {i : Bool} (q : SimV K ex rho H (.bl i) v) : v = .bl i := by unfold SimV at q; exact q
theorem non_at (q : SimV K ex rho H .non v) : v = .non := by unfold SimV at q; exact q
theorem SimV.int (i : Int) : SimV K ex rho H (.int i) (.int i) := by unfold SimV; rfl
theorem SimV.str (i : Str) : SimV K ex rho H (.str i) (.str i) := by unfold SimV; rfl
theorem SimV.bl (i : Bool) : SimV K ex rho H (.bl i) (.bl i) := by unfold SimV; rfl
theorem SimV.non : SimV K ex rho H .non .non := by unfold SimV; rfl
theorem SimV.ref {a : Addr} (h : rho[n]? = some a) : SimV K ex rho H (.ref n) (.ref a) := by unfold SimV; exact ⟨a, h, rfl⟩
theorem SimV.key (k : Key) : SimV K ex rho H (MP.ofKey k) (kV k) := by
  cases k with
  | inl i => exact SimV.int i
  | inr i => exact SimV.str i
theorem key_at {x : MV} {k : Key} (q : SimV K ex rho H x v) (h : MP.keyOf x = some k) : v = kV k := by
  cases x <;> first | (cases h; done) | skip
  · cases h; exact int_at q
  · cases h; exact str_at q
theorem lst_at {xs : List MV} (M : SimM K mg rho H mem) (q : SimV K ex rho H (.ref n) v) (hm : mem[n]? = some (.lst xs)) : ∃ a vs, v = .ref a ∧ rho[n]? = some a ∧ H a = some (.lst vs) ∧ SimL K ex rho H xs vs := by
  obtain ⟨a, hr, e⟩ := ref_at q
  obtain ⟨vs, h1, h2⟩ := M.get hr hm
  exact ⟨a, vs, e, hr, h1, h2.ex0 ex⟩
theorem rol_at {xs : List MV} (M : SimM K mg rho H mem) (q : SimV K ex rho H (.ref n) v) (hm : mem[n]? = some (.rol xs)) : ∃ a vs, v = .ref a ∧ rho[n]? = some a ∧ SqL K H a vs ∧ SimL K ex rho H xs vs := by
  obtain ⟨a, hr, e⟩ := ref_at q
  obtain ⟨vs, h1, h2⟩ := M.get hr hm
  refine ⟨a, vs, e, hr, ?_, h2.ex0 ex⟩
  rcases h1 with ⟨o, h1⟩ | h1
  · exact .inl (.inr ⟨o, h1⟩)
  · exact .inr h1
theorem SimP.ex0 {α : Type} (ex : ExH) {xs : List (α × MV)} {vs : List (α × V)} (h : SimP K none rho H xs vs) : SimP K ex rho H xs vs := Paired.mapP h fun _ _ q => ⟨q.1, q.2.ex0 ex⟩
theorem dct_at {lk : Bool} {kvs : List (Key × MV)} (M : SimM K mg rho H mem) (q : SimV K ex rho H (.ref n) v) (hm : mem[n]? = some (.dct lk kvs)) : ∃ a vs, v = .ref a ∧ rho[n]? = some a ∧ Rd H a (.dK vs) ∧ SimP K ex rho H kvs vs := by
  obtain ⟨a, hr, e⟩ := ref_at q
  cases lk with
  | false =>
    obtain ⟨vs, h1, h2⟩ := M.get hr hm
    exact ⟨a, vs, e, hr, .inl h1, h2.ex0 ex⟩
  | true =>
    obtain ⟨o, vs, h1, h2⟩ := M.get hr hm
    exact ⟨a, vs, e, hr, .inr ⟨o, h1⟩, h2.ex0 ex⟩
theorem dct0_at {kvs : List (Key × MV)} (M : SimM K mg rho H mem) (q : SimV K ex rho H (.ref n) v) (hm : mem[n]? = some (.dct false kvs)) : ∃ a vs, v = .ref a ∧ rho[n]? = some a ∧ H a = some (.dK vs) ∧ SimP K none rho H kvs vs := by
  obtain ⟨a, hr, e⟩ := ref_at q
  obtain ⟨vs, h1, h2⟩ := M.get hr hm
  exact ⟨a, vs, e, hr, h1, h2⟩
theorem ins_at {C : Str} {fs : List (Str × MV)} (M : SimM K mg rho H mem) (q : SimV K ex rho H (.ref n) v) (hm : mem[n]? = some (.ins C fs)) : ∃ a Ca dx vs, v = .ref a ∧ rho[n]? = some a ∧ mg C = some (.ref Ca) ∧ H a = some (.ins Ca dx vs) ∧ SimP K none rho H fs vs := by
  obtain ⟨a, hr, e⟩ := ref_at q
  obtain ⟨Ca, dx, vs, h1, h2, h3⟩ := M.get hr hm
  exact ⟨a, Ca, dx, vs, e, hr, h1, h2, h3⟩
end
theorem line_eq : MP.LINE = sizeLine := by rw [sizeLine_eq]; rfl

section
variable {X : Cx}
/-! ### + -/
def rAddM (X : Cx) : R2 := fun x y H Q => rI0 (fun i j => .int (i + j)) x y H Q ∨ (∃ i j, x = .str i ∧ y = .str j ∧ i.length + j.length ≤ sizeLine ∧ Q (.str (i ++ j)) H) ∨ rCat x y H Q ∨ rCatF X.K x y H Q
theorem op_addM : OpR X (binaryOp .Add) (rAddM X) := op_add.or (op_add_str.or (op_cat.or op_catF))
theorem SimL.nil_iff {K : PySem.W.Frag} {ex : ExH} {rho : Rho} {H : Hp} {vs : List V} {xs : List MV} (l : SimL K ex rho H xs vs) (e : vs = []) : xs = [] := by
  have := l.length
  subst e
  exact List.eq_nil_of_length_eq_zero this
theorem good_add : GoodR2 X (rAddM X) MP.oAdd := fun ex rho mem H x y v w Q q1 q2 M q => by
  cases x <;> cases y <;> first | exact q.elim | skip
  · exact .inl ⟨_, _, int_at q1, int_at q2, okP.at q (SimV.int _) M⟩
  · rename_i a b
    by_cases hc : a.length + b.length ≤ MP.LINE
    · simp only [MP.oAdd, if_pos hc, Res.wp_ok] at q
      exact .inr (.inl ⟨_, _, str_at q1, str_at q2, by rw [← line_eq]; exact hc, okP.at q (SimV.str _) M⟩)
    · simp only [MP.oAdd, if_neg hc, Res.wp_bad] at q
  · rename_i xs ys
    by_cases hc : xs.length ≤ MP.LINE ∧ ys.length ≤ MP.LINE ∧ (xs ++ ys).length ≤ MP.LINE
    · simp only [MP.oAdd, if_pos hc, Res.wp_ok] at q
      obtain ⟨a, vs, rfl, s1, l1⟩ := tup_at q1
      obtain ⟨b, ws, rfl, s2, l2⟩ := tup_at q2
      refine .inr (.inr (.inr ⟨a, b, vs, ws, rfl, rfl, s1, s2, ?_, fun e => ?_, fun _ e => ?_, fun _ _ p o hp ho => ?_⟩))
      · rw [← line_eq, ← l1.length, ← l2.length, ← List.length_append]; exact hc.2.2
      · have : xs = [] := l1.nil_iff e
        subst this
        exact okP.at q (by simpa using q2) M
      · have : ys = [] := l2.nil_iff e
        subst this
        exact okP.at q (by simpa using q1) M
      · exact okP.newT q M hp ho (l1.append l2)
    · simp only [MP.oAdd, if_neg hc, Res.wp_bad] at q
  · rename_i a b
    cases hm : mem[a]? with
    | none => simp [MP.oAdd, hm] at q
    | some o => cases o with
      | lst xs => cases hm2 : mem[b]? with
        | none => simp [MP.oAdd, hm, hm2] at q
        | some o2 => cases o2 with
          | lst ys =>
            simp only [MP.oAdd, hm, hm2] at q
            by_cases hc : (xs ++ ys).length ≤ MP.LINE
            · rw [if_pos hc] at q
              obtain ⟨pa, vs, rfl, r1, e1, l1⟩ := lst_at M q1 hm
              obtain ⟨pb, ws, rfl, r2, e2, l2⟩ := lst_at M q2 hm2
              refine .inr (.inr (.inl ⟨pa, pb, vs, ws, rfl, rfl, e1, e2, ?_, fun p hp => ?_⟩))
              · rw [← line_eq, ← l1.length, ← l2.length, ← List.length_append]; exact hc
              · obtain ⟨vs', e1', l1'⟩ := M.get r1 hm
                obtain ⟨ws', e2', l2'⟩ := M.get r2 hm2
                rw [e1] at e1'; cases e1'
                rw [e2] at e2'; cases e2'
                exact okP.new q M hp rfl ⟨_, upd_same, (l1'.append l2').mono (Stay.new hp) (Sub.snoc _ _)⟩
            · rw [if_neg hc] at q; exact q.elim
          | _ => simp [MP.oAdd, hm, hm2] at q
      | _ => simp [MP.oAdd, hm] at q
theorem nx_add : NoEx2 MP.oAdd := fun x y m c m' h => by
  unfold MP.oAdd MP.new at h
  repeat' split at h
  all_goals cases h

/-! ### * -/
def rRepS : R2 := fun x y H Q => ∃ a j, x = .str a ∧ y = .int j ∧ 0 ≤ j ∧ j ≤ 100000 ∧ a.length * j.toNat ≤ sizeLine ∧ Q (.str (MP.repS a j.toNat)) H
theorem foldl_app (a : Array Nat) : ∀ (n : Nat) (acc : Array Nat), ((List.replicate n a).foldl (· ++ ·) acc).toList = acc.toList ++ (List.replicate n a.toList).flatten
  | 0, acc => by simp
  | n + 1, acc => by
    rw [List.replicate_succ, List.foldl_cons, foldl_app a n, List.replicate_succ, List.flatten_cons, Array.toList_append, List.append_assoc]
theorem repS_eq (x : Str) (n : Nat) : (⟨(List.replicate n x.cps).foldl (· ++ ·) #[]⟩ : Str) = MP.repS x n := by
  unfold MP.repS
  congr 1
  apply Array.toList_inj.mp
  rw [foldl_app]
  simp
theorem op_repS : OpR X (binaryOp .Mult) rRepS := fun pins s σ H x y v u Q I rx ry h => by
  obtain ⟨a, j, rfl, rfl, h0, h1, hz, q⟩ := h
  obtain ⟨t, rfl⟩ := rx
  obtain ⟨t', rfl⟩ := ry
  have hl : a.length * j.toNat ≤ 16777216 := by rw [sizeLine_eq] at hz; exact hz
  have fin : ∀ z, z = MP.repS a j.toNat → EP X pins σ Q (.str z s.toks) { s with toks := s.toks + 1 } := fun z e => by
    subst e
    exact ⟨.str (MP.repS a j.toNat), H, I.tok _, ⟨_, rfl⟩, q⟩
  refine PySem.P.mul_str (by
      have e1 : decide (j < -(2 ^ 63 : Int)) = false := decide_eq_false (by omega)
      have e2 : decide (j ≥ 2 ^ 63) = false := decide_eq_false (by omega)
      rw [e1, e2, Bool.or_false]) (fun h2 h3 => ?_) (fun h2 h3 => ?_) ?_
  · have hd : ¬ (j == 1 || a.length == 0) = true := by rw [h3]; simp
    simp only [Bool.or_eq_true, beq_iff_eq, not_or] at hd
    have hj : 0 < j := by omega
    have hja : a.length ≤ 16777216 := by
      have : a.length * 1 ≤ a.length * j.toNat := Nat.mul_le_mul_left _ (by omega)
      omega
    intro hgt
    have hge : (2 ^ 63 - 1) / j ≥ (2 ^ 63 - 1) / 100000 := by
      have h5 : (2 ^ 63 - 1 : Int) / 100000 * j ≤ 2 ^ 63 - 1 := by
        have : (2 ^ 63 - 1 : Int) / 100000 * j ≤ (2 ^ 63 - 1 : Int) / 100000 * 100000 := Int.mul_le_mul_of_nonneg_left h1 (by decide)
        have h6 : (2 ^ 63 - 1 : Int) / 100000 * 100000 ≤ 2 ^ 63 - 1 := by decide
        omega
      exact (Int.le_ediv_iff_mul_le hj).mpr h5
    have h7 : (2 ^ 63 - 1 : Int) / 100000 > 16777216 := by decide
    omega
  · have : a.length * j.toNat ≤ sizeLine := hz
    exact PyProof.Rows.short24 (by rw [sizeLine_eq] at this; omega)
  · by_cases h2 : j < 1
    · rw [if_pos h2]
      have : j = 0 := by omega
      subst this
      exact ⟨by decide, fin _ (by unfold MP.repS; rfl)⟩
    · rw [if_neg h2]
      by_cases h3 : (j == 1 || a.length == 0) = true
      · rw [if_pos h3]
        have e : MP.repS a j.toNat = a := by
          simp only [Bool.or_eq_true, beq_iff_eq] at h3
          rcases h3 with h3 | h3
          · subst h3
            unfold MP.repS
            simp
          · have : a.cps = #[] := by
              have h4 : a.cps.size = 0 := h3
              exact Array.eq_empty_of_size_eq_zero h4
            unfold MP.repS
            cases a
            simp only at this
            subst this
            congr 1
            simp
        exact ⟨.str a, H, I, ⟨_, rfl⟩, by rw [e] at q; exact q⟩
      · rw [if_neg h3]
        refine ⟨?_, fin _ (repS_eq a j.toNat)⟩
        rw [repS_eq]
        unfold MP.repS Str.length
        simp only [List.size_toArray, List.length_flatten, List.map_replicate, List.sum_replicate_nat, Array.length_toList]
        rw [sizeLine_eq]
        rw [Nat.mul_comm]
        exact hl
def CMulM (i j : Int) : Prop := MP.mulOk i j
theorem bits_big {i : Int} (h : i.natAbs < MP.BIG) : Builtin.Int.intBits i ≤ 400000 := intBits_le (by unfold MP.BIG at h; exact h)
theorem mulOk_ok {i j : Int} (h : MP.mulOk i j) : IntMulOk i j := by
  rcases h with h | h | ⟨h1, h2⟩
  · exact .of_left (intBits_le h)
  · exact .of_right (intBits_le h)
  · have hc : CMulX i j := by
      unfold CMulX
      have a := bits_big h1
      have b := bits_big h2
      omega
    exact hc.ok
def rMulM (X : Cx) : R2 := fun x y H Q => rI CMulM (fun i j => .int (i * j)) x y H Q ∨ rRep x y H Q ∨ rRepS x y H Q
theorem op_mulM : OpR X (binaryOp .Mult) (rMulM X) := (opI fun _ _ _ _ _ _ _ hc q => mul_int q (mulOk_ok hc)).or (op_rep.or op_repS)
theorem SimL.append_rep {K : PySem.W.Frag} {ex : ExH} {rho : Rho} {H : Hp} {vs : List V} {xs : List MV} (l : SimL K ex rho H xs vs) : ∀ n, SimL K ex rho H (List.replicate n xs).flatten (List.replicate n vs).flatten
  | 0 => SimL.nil
  | n + 1 => by
    rw [List.replicate_succ, List.replicate_succ, List.flatten_cons, List.flatten_cons]
    exact l.append (l.append_rep n)
theorem good_mul : GoodR2 X (rMulM X) MP.oMul := fun ex rho mem H x y v w Q q1 q2 M q => by
  cases x <;> cases y <;> first | exact q.elim | skip
  · rename_i i j
    by_cases hc : MP.mulOk i j
    · simp only [MP.oMul, if_pos hc, Res.wp_ok] at q
      exact .inl ⟨_, _, int_at q1, int_at q2, hc, okP.at q (SimV.int _) M⟩
    · simp only [MP.oMul, if_neg hc, Res.wp_bad] at q
  · rename_i a j
    by_cases hc : 0 ≤ j ∧ j ≤ 100000 ∧ a.length * j.toNat ≤ MP.LINE
    · simp only [MP.oMul, if_pos hc, Res.wp_ok] at q
      exact .inr (.inr ⟨_, _, str_at q1, int_at q2, hc.1, hc.2.1, by rw [← line_eq]; exact hc.2.2, okP.at q (SimV.str _) M⟩)
    · simp only [MP.oMul, if_neg hc, Res.wp_bad] at q
  · rename_i n j
    cases hm : mem[n]? with
    | none => simp [MP.oMul, hm] at q
    | some o => cases o with
      | lst xs =>
        simp only [MP.oMul, hm] at q
        by_cases hc : 0 ≤ j ∧ j ≤ 100000 ∧ xs.length * j.toNat ≤ MP.LINE
        · rw [if_pos hc] at q
          obtain ⟨pa, vs, rfl, r1, e1, l1⟩ := lst_at M q1 hm
          refine .inr (.inl ⟨pa, j, vs, rfl, int_at q2, e1, by omega, by omega, ?_, fun p hp => ?_⟩)
          · rw [← line_eq, ← l1.length]; exact hc.2.2
          · obtain ⟨vs', e1', l1'⟩ := M.get r1 hm
            rw [e1] at e1'; cases e1'
            exact okP.new q M hp rfl ⟨_, upd_same, (l1'.append_rep _).mono (Stay.new hp) (Sub.snoc _ _)⟩
        · rw [if_neg hc] at q; exact q.elim
      | _ => simp [MP.oMul, hm] at q
theorem nx_mul : NoEx2 MP.oMul := fun x y m c m' h => by
  unfold MP.oMul MP.new at h
  repeat' split at h
  all_goals cases h

/-! ### the rest of the arithmetic -/
theorem nx_sub : NoEx2 MP.oSub := fun x y m c m' h => by
  unfold MP.oSub at h
  repeat' split at h
  all_goals cases h
theorem nx_div : NoEx2 MP.oDiv := fun x y m c m' h => by
  unfold MP.oDiv at h
  repeat' split at h
  all_goals cases h
theorem nx_mod : NoEx2 MP.oMod := fun x y m c m' h => by
  unfold MP.oMod at h
  repeat' split at h
  all_goals cases h
theorem nx_neg : NoEx1 MP.oNeg := fun x m c m' h => by
  unfold MP.oNeg at h
  repeat' split at h
  all_goals cases h

/-! ### comparisons -/
theorem good_lt : GoodR2 X (rI0 fun i j => .bl (decide (i < j))) MP.oLt := fun ex rho mem H x y v w Q q1 q2 M q => by
  cases x <;> cases y <;> first | exact q.elim | skip
  exact ⟨_, _, int_at q1, int_at q2, okP.at q (SimV.bl _) M⟩
theorem good_le : GoodR2 X (rI0 fun i j => .bl (decide (i ≤ j))) MP.oLe := fun ex rho mem H x y v w Q q1 q2 M q => by
  cases x <;> cases y <;> first | exact q.elim | skip
  exact ⟨_, _, int_at q1, int_at q2, okP.at q (SimV.bl _) M⟩
theorem good_gt : GoodR2 X (rI0 fun i j => .bl (decide (i > j))) MP.oGt := fun ex rho mem H x y v w Q q1 q2 M q => by
  cases x <;> cases y <;> first | exact q.elim | skip
  exact ⟨_, _, int_at q1, int_at q2, okP.at q (SimV.bl _) M⟩
theorem good_ge : GoodR2 X (rI0 fun i j => .bl (decide (i ≥ j))) MP.oGe := fun ex rho mem H x y v w Q q1 q2 M q => by
  cases x <;> cases y <;> first | exact q.elim | skip
  exact ⟨_, _, int_at q1, int_at q2, okP.at q (SimV.bl _) M⟩
theorem nx_lt : NoEx2 MP.oLt := fun x y m c m' h => by
  unfold MP.oLt at h
  repeat' split at h
  all_goals cases h
theorem nx_le : NoEx2 MP.oLe := fun x y m c m' h => by
  unfold MP.oLe at h
  repeat' split at h
  all_goals cases h
theorem nx_gt : NoEx2 MP.oGt := fun x y m c m' h => by
  unfold MP.oGt at h
  repeat' split at h
  all_goals cases h
theorem nx_ge : NoEx2 MP.oGe := fun x y m c m' h => by
  unfold MP.oGe at h
  repeat' split at h
  all_goals cases h
theorem good_eq : GoodR2 X (rEqM X) MP.oEq := fun ex rho mem H x y v w Q q1 q2 M q => by
  unfold MP.oEq at q
  cases e : MP.eqF MP.DEEP mem x y with
  | none => rw [e] at q; exact q.elim
  | some b =>
    rw [e] at q
    exact ⟨ex, rho, mem, x, y, b, M, q1, q2, e, okP.at q (SimV.bl _) M⟩
theorem good_ne : GoodR2 X (rNeM X) MP.oNe := fun ex rho mem H x y v w Q q1 q2 M q => by
  unfold MP.oNe at q
  cases e : MP.neF MP.DEEP mem x y with
  | none => rw [e] at q; exact q.elim
  | some b =>
    rw [e] at q
    exact ⟨ex, rho, mem, x, y, b, M, q1, q2, e, okP.at q (SimV.bl _) M⟩
theorem nx_eq : NoEx2 MP.oEq := fun x y m c m' h => by
  unfold MP.oEq at h
  repeat' split at h
  all_goals cases h
theorem nx_ne : NoEx2 MP.oNe := fun x y m c m' h => by
  unfold MP.oNe at h
  repeat' split at h
  all_goals cases h
end
end ML

/-! MLinkF: None, in, subscripts, slices, len, truth, and, or, not, chains, displays. -/
namespace ML
open PySem PySem.Spec PyProof.Rows L2
open MP (MV MO Mem Fr ME MA MT MS MG MI MFn Res SR)

section
variable {X : Cx} {W : WX} {ex : ExH} {a b c : Expr} {ma mb mc : ME} {pos : Pos}
/-! ### is None -/
theorem le_isN {j p} (ha : LE X W ex a ma) : LE X W ex (.Compare a [.Is] [.Constant .none j p] pos) (MP.e1 MP.oIsN ma) := by
  obtain ⟨ta, p1, g1⟩ := ha
  refine ⟨_, pe_cmpR op_isN p1 pe_non (nomark _), fun rho fr mem σ H Q S M h => ?_⟩
  unfold MP.e1 at h
  rw [Res.wp_bind] at h
  refine g1 rho fr mem σ H _ S M (Res.wp_mono h (fun x m1 h1 rho1 v H1 s1 t1 q1 M1 => ?_) fun c m1 h1 => h1)
  have fin : ∀ k : Bool, decide (v = V.non) = k → okP X.K X.mg ex rho H Q (.bl k) m1 → Q (.bl (decide (v = V.non))) H1 := fun k e h2 => by
    rw [e]; exact okP.at (okP.trans h2 s1 t1) (SimV.bl _) M1
  refine ⟨rfl, ?_⟩
  cases x with
  | non => exact fin true (by rw [non_at q1]; rfl) h1
  | bl k => exact fin false (by rw [bl_at q1]; rfl) h1
  | int k => exact fin false (by rw [int_at q1]; rfl) h1
  | str k => exact fin false (by rw [str_at q1]; rfl) h1
  | tup xs => obtain ⟨_, _, e, _⟩ := tup_at q1; exact fin false (by rw [e]; rfl) h1
  | ref n => obtain ⟨_, _, e⟩ := ref_at q1; exact fin false (by rw [e]; rfl) h1
  | exn c => exact h1.elim
theorem le_notN {j p} (ha : LE X W ex a ma) : LE X W ex (.Compare a [.IsNot] [.Constant .none j p] pos) (MP.e1 MP.oNotN ma) := by
  obtain ⟨ta, p1, g1⟩ := ha
  refine ⟨_, pe_cmpR op_notN p1 pe_non (nomark _), fun rho fr mem σ H Q S M h => ?_⟩
  unfold MP.e1 at h
  rw [Res.wp_bind] at h
  refine g1 rho fr mem σ H _ S M (Res.wp_mono h (fun x m1 h1 rho1 v H1 s1 t1 q1 M1 => ?_) fun c m1 h1 => h1)
  have fin : ∀ k : Bool, decide (v = V.non) = !k → okP X.K X.mg ex rho H Q (.bl k) m1 → Q (.bl (!decide (v = V.non))) H1 := fun k e h2 => by
    rw [e, Bool.not_not]; exact okP.at (okP.trans h2 s1 t1) (SimV.bl _) M1
  refine ⟨rfl, ?_⟩
  cases x with
  | non => exact fin false (by rw [non_at q1]; rfl) h1
  | bl k => exact fin true (by rw [bl_at q1]; rfl) h1
  | int k => exact fin true (by rw [int_at q1]; rfl) h1
  | str k => exact fin true (by rw [str_at q1]; rfl) h1
  | tup xs => obtain ⟨_, _, e, _⟩ := tup_at q1; exact fin true (by rw [e]; rfl) h1
  | ref n => obtain ⟨_, _, e⟩ := ref_at q1; exact fin true (by rw [e]; rfl) h1
  | exn c => exact h1.elim
/-- a comparison that is a bool, as a test -/
theorem lt_isN {j p} (ha : LE X W ex a ma) : LT X W ex (.Compare a [.Is] [.Constant .none j p] pos) (MP.tB (MP.e1 MP.oIsN ma)) := by
  obtain ⟨ta, p1, g1⟩ := ha
  have := le_isN (X := X) (W := W) (ex := ex) (pos := pos) (j := j) (p := p) ⟨ta, p1, g1⟩
  refine ⟨_, pt_cmpR op_isN p1 pe_non (nomark _), fun rho fr mem σ H Q S M h => ?_⟩
  unfold MP.tB MP.e1 at h
  rw [Res.wp_bind, Res.wp_bind] at h
  refine g1 rho fr mem σ H _ S M (Res.wp_mono h (fun x m1 h1 rho1 v H1 s1 t1 q1 M1 => ?_) fun c m1 h1 => h1)
  have fin : ∀ k : Bool, decide (v = V.non) = k → okB X.K X.mg rho H Q k m1 → ∃ k, V.bl (decide (v = V.non)) = .bl k ∧ Q k H1 := fun k e h2 => by
    rw [e]; exact ⟨k, rfl, h2 rho1 H1 s1 t1 M1⟩
  refine ⟨rfl, ?_⟩
  cases x with
  | non => exact fin true (by rw [non_at q1]; rfl) h1
  | bl k => exact fin false (by rw [bl_at q1]; rfl) h1
  | int k => exact fin false (by rw [int_at q1]; rfl) h1
  | str k => exact fin false (by rw [str_at q1]; rfl) h1
  | tup xs => obtain ⟨_, _, e, _⟩ := tup_at q1; exact fin false (by rw [e]; rfl) h1
  | ref n => obtain ⟨_, _, e⟩ := ref_at q1; exact fin false (by rw [e]; rfl) h1
  | exn c => exact h1.elim
theorem lt_notN {j p} (ha : LE X W ex a ma) : LT X W ex (.Compare a [.IsNot] [.Constant .none j p] pos) (MP.tB (MP.e1 MP.oNotN ma)) := by
  obtain ⟨ta, p1, g1⟩ := ha
  refine ⟨_, pt_cmpR op_notN p1 pe_non (nomark _), fun rho fr mem σ H Q S M h => ?_⟩
  unfold MP.tB MP.e1 at h
  rw [Res.wp_bind, Res.wp_bind] at h
  refine g1 rho fr mem σ H _ S M (Res.wp_mono h (fun x m1 h1 rho1 v H1 s1 t1 q1 M1 => ?_) fun c m1 h1 => h1)
  have fin : ∀ k : Bool, decide (v = V.non) = !k → okB X.K X.mg rho H Q k m1 → ∃ k, V.bl (!decide (v = V.non)) = .bl k ∧ Q k H1 := fun k e h2 => by
    rw [e, Bool.not_not]; exact ⟨k, rfl, h2 rho1 H1 s1 t1 M1⟩
  refine ⟨rfl, ?_⟩
  cases x with
  | non => exact fin false (by rw [non_at q1]; rfl) h1
  | bl k => exact fin true (by rw [bl_at q1]; rfl) h1
  | int k => exact fin true (by rw [int_at q1]; rfl) h1
  | str k => exact fin true (by rw [str_at q1]; rfl) h1
  | tup xs => obtain ⟨_, _, e, _⟩ := tup_at q1; exact fin true (by rw [e]; rfl) h1
  | ref n => obtain ⟨_, _, e⟩ := ref_at q1; exact fin true (by rw [e]; rfl) h1
  | exn c => exact h1.elim

/-! ### in -/
theorem op_inDict (hu : X.A.units + 1 < cLine) : OpR X (compareOp .In) (fun x y H Q => ∃ p o, y = .ref p ∧ DGet H p x o ∧ Q (.bl o.isSome) H) := fun pins s σ H x y v u Q I rx ry h => by
  obtain ⟨p, o, rfl, g, q⟩ := h
  cases ry
  exact d_in hu I g rx fun s' I' => ⟨.bl o.isSome, H, I', rfl, q⟩
theorem op_notInDict (hu : X.A.units + 1 < cLine) : OpR X (compareOp .NotIn) (fun x y H Q => ∃ p o, y = .ref p ∧ DGet H p x o ∧ Q (.bl (!o.isSome)) H) := fun pins s σ H x y v u Q I rx ry h => by
  obtain ⟨p, o, rfl, g, q⟩ := h
  cases ry
  exact d_notIn hu I g rx fun s' I' => ⟨.bl (!o.isSome), H, I', rfl, q⟩
def rInM (X : Cx) (n : Bool) : R2 := fun x y H Q => rIn X.K n x y H Q ∨ (∃ (c : Nat) (z : Str), x = .str ⟨#[c]⟩ ∧ y = .str z ∧ Q (.bl (if n then !decide (c ∈ z.cps.toList) else decide (c ∈ z.cps.toList))) H) ∨
  (∃ p o, y = .ref p ∧ DGet H p x o ∧ Q (.bl (if n then !o.isSome else o.isSome)) H)
theorem op_inM (hu : X.A.units + 1 < cLine) : OpR X (compareOp .In) (rInM X false) := op_in_seq.or (op_in_sign.or (op_inDict hu))
theorem op_notInM (hu : X.A.units + 1 < cLine) : OpR X (compareOp .NotIn) (rInM X true) := op_notIn_seq.or (op_notIn_sign.or (op_notInDict hu))
theorem flat_at {K : PySem.W.Frag} {rho : Rho} {H : Hp} {x : MV} {v : V} (q : SimV K ex rho H x v) (h : MP.flat x = true) : flatV v = true := by
  cases x with
  | non => rw [non_at q]; rfl
  | bl _ => rw [bl_at q]; rfl
  | int _ => rw [int_at q]; rfl
  | str _ => rw [str_at q]; rfl
  | _ => exact absurd (show false = true from h) Bool.false_ne_true
theorem flat_eq {K : PySem.W.Frag} {rho : Rho} {H : Hp} {x y : MV} {v w : V} (q1 : SimV K ex rho H x v) (q2 : SimV K ex rho H y w) (h1 : MP.flat x = true) (h2 : MP.flat y = true) : eqV v w = MP.eqFl x y := by
  cases x <;> first | exact absurd (show false = true from h1) Bool.false_ne_true | skip
  all_goals cases y <;> first | exact absurd (show false = true from h2) Bool.false_ne_true | skip
  all_goals first | rw [non_at q1] | rw [bl_at q1] | rw [int_at q1] | rw [str_at q1]
  all_goals first | rw [non_at q2] | rw [bl_at q2] | rw [int_at q2] | rw [str_at q2]
  all_goals rfl
theorem flats_at {K : PySem.W.Frag} {rho : Rho} {H : Hp} {x : MV} {v : V} (q1 : SimV K ex rho H x v) (h1 : MP.flat x = true) : ∀ {xs : List MV} {vs : List V}, SimL K ex rho H xs vs → xs.all MP.flat = true →
    vs.all flatV = true ∧ L2.inV v vs = xs.any fun y => MP.eqFl y x
  | [], vs, l, _ => by rw [l.inv_nil] <;> exact ⟨rfl, rfl⟩
  | y :: ys, vs, l, h => by
    obtain ⟨w, ws, rfl, q2, l2⟩ := l.inv_cons
    rw [List.all_cons, Bool.and_eq_true] at h
    obtain ⟨e1, e2⟩ := flats_at q1 h1 l2 h.2
    refine ⟨by rw [List.all_cons, flat_at q2 h.1, e1]; rfl, ?_⟩
    unfold L2.inV at e2 ⊢
    rw [List.any_cons, List.any_cons, e2, flat_eq q2 q1 h.1 h1]
theorem good_inM {n : Bool} {f : MV → MV → Mem → Res MV} (hf : ∀ x c m, f x c m = match MP.inV x c m with
    | some b => .ok (.bl (if n then !b else b)) m
    | none => .bad) : GoodR2 X (rInM X n) f := fun ex rho mem H x y v w Q q1 q2 M q => by
  rw [hf] at q
  cases e : MP.inV x y mem with
  | none => rw [e] at q; exact q.elim
  | some k =>
    rw [e] at q
    have seq : ∀ (p : Addr) (xs : List MV) (vs : List V), w = .ref p → (SqL X.K H p vs ∨ SqT X.K H p vs) → SimL X.K ex rho H xs vs → MP.inFl x xs = some k → rInM X n v w H Q := fun p xs vs e1 e2 l e3 => by
      unfold MP.inFl at e3
      split at e3
      · rename_i hc
        cases e3
        obtain ⟨f1, f2⟩ := flats_at q1 hc.1 l hc.2
        refine .inl ⟨p, vs, e1, e2, flat_at q1 hc.1, f1, ?_⟩
        rw [f2]
        have := okP.at q (SimV.bl _) M
        cases n <;> exact this
      · cases e3
    cases y with
    | tup xs =>
      obtain ⟨p, vs, e1, s1, l1⟩ := tup_at q2
      exact seq p xs vs e1 (.inr s1) l1 e
    | str z =>
      cases x with
      | str c =>
        have e' : MP.inS c z = some k := e
        unfold MP.inS at e'
        split at e'
        · rename_i kk hk
          cases e'
          have hc : c = ⟨#[kk]⟩ := by
            cases c
            congr 1
            apply Array.toList_inj.mp
            rw [hk]
          subst hc
          have := okP.at q (SimV.bl _) M
          refine .inr (.inl ⟨kk, z, str_at q1, str_at q2, ?_⟩)
          cases n <;> exact this
        · cases e'
      | _ => cases e
    | ref r =>
      cases hm : mem[r]? with
      | none => simp [MP.inV, hm] at e
      | some o => cases o with
        | lst xs =>
          obtain ⟨p, vs, e1, _, e2, l1⟩ := lst_at M q2 hm
          exact seq p xs vs e1 (.inl (SqL.of e2)) l1 (by simpa [MP.inV, hm] using e)
        | dct lk kvs =>
          simp only [MP.inV, hm] at e
          cases hk : MP.keyOf x with
          | none => rw [hk] at e; cases e
          | some key =>
            rw [hk] at e
            simp only [Option.map_some, Option.some.injEq] at e
            obtain ⟨p, vs, e1, _, e2, l1⟩ := dct_at M q2 hm
            refine .inr (.inr ⟨p, valV vs key, e1, .inl ⟨vs, key, e2, key_at q1 hk, rfl⟩, ?_⟩)
            have hs : (valV vs key).isSome = k := by
              rcases SimK.find key l1 with ⟨f1, f2⟩ | ⟨x', v', f1, f2, _⟩
              · rw [← e, f1, f2]; rfl
              · rw [← e, f1, f2]; rfl
            rw [hs]
            exact okP.at q (SimV.bl _) M
        | _ => simp [MP.inV, hm] at e
    | _ => cases e
theorem good_in : GoodR2 X (rInM X false) MP.oIn := good_inM fun x c m => by unfold MP.oIn; rfl
theorem good_notIn : GoodR2 X (rInM X true) MP.oNotIn := good_inM fun x c m => by unfold MP.oNotIn; rfl
theorem nx_in : NoEx2 MP.oIn := fun x y m c m' h => by
  unfold MP.oIn at h
  repeat' split at h
  all_goals cases h
theorem nx_notIn : NoEx2 MP.oNotIn := fun x y m c m' h => by
  unfold MP.oNotIn at h
  repeat' split at h
  all_goals cases h

/-! ### a[b] -/
theorem ix_dict (hu : X.A.units + 1 < cLine) : IxR X (fun x y H Q => ∃ p v, x = .ref p ∧ DGet H p y (some v) ∧ Q v H) := fun value slice pins s σ H x y v u Q I rx ry h hs => by
  obtain ⟨p, z, rfl, g, q⟩ := h
  cases rx
  exact tail_any (dict_typeIs I g) PySem.F.slot_dict_getitem.lookup (d_getItem hu I g ry fun w' s3 I3 rw' => ⟨z, H, I3, rw', q⟩) hs
def rIxM (X : Cx) : R2 := fun x y H Q => rIx X.K x y H Q ∨ ∃ p v, x = .ref p ∧ DGet H p y (some v) ∧ Q v H
theorem atI_eq {α : Type} (xs : List α) (i : Int) : MP.atI xs i = L2.atI xs i := by
  unfold MP.atI L2.atI L2.ixN
  by_cases h0 : 0 ≤ i
  · rw [if_pos h0, if_pos h0]
    by_cases h1 : i < xs.length
    · rw [if_pos h1]; rfl
    · rw [if_neg h1]
      simp
      omega
  · rw [if_neg h0, if_neg h0]
    by_cases h1 : 0 ≤ i + (xs.length : Int)
    · rw [if_pos h1, if_pos (by omega)]; rfl
    · rw [if_neg h1, if_neg (by omega)]; rfl
theorem SimL.atI {K : PySem.W.Frag} {rho : Rho} {H : Hp} {xs : List MV} {vs : List V} (l : SimL K ex rho H xs vs) {i : Int} {x : MV} (h : MP.atI xs i = some x) : ∃ v, L2.atI vs i = some v ∧ SimV K ex rho H x v := by
  rw [← atI_eq]
  have hl := l.length
  unfold MP.atI at h ⊢
  rw [← hl]
  split at h
  · rename_i c1
    rw [if_pos c1]
    exact l.get h
  · rename_i c1
    rw [if_neg c1]
    split at h
    · rename_i c2
      rw [if_pos c2]
      exact l.get h
    · cases h
theorem good_ix : GoodR2 X (rIxM X) MP.oIx := fun ex rho mem H x y v w Q q1 q2 M q => by
  cases x with
  | tup xs =>
    cases y with
    | int i =>
      simp only [MP.oIx] at q
      cases e : MP.atI xs i with
      | none => rw [e] at q; exact q.elim
      | some z =>
        rw [e] at q
        obtain ⟨p, vs, e1, s1, l1⟩ := tup_at q1
        obtain ⟨z', e2, q3⟩ := l1.atI e
        exact .inl (.inr (.inl ⟨p, vs, i, z', e1, int_at q2, s1, e2, okP.at q q3 M⟩))
    | _ => exact q.elim
  | str s =>
    cases y with
    | int i =>
      simp only [MP.oIx] at q
      cases e : MP.atI s.cps.toList i with
      | none => rw [e] at q; exact q.elim
      | some z =>
        rw [e] at q
        simp only at q
        split at q
        · rename_i hc
          rw [atI_eq] at e
          exact .inl (.inr (.inr ⟨s, i, z, str_at q1, int_at q2, by rw [← line_eq]; exact hc, e, okP.at q (SimV.str _) M⟩))
        · exact q.elim
    | _ => exact q.elim
  | ref n =>
    cases hm : mem[n]? with
    | none => simp [MP.oIx, hm] at q
    | some o => cases o with
      | lst xs =>
        cases y with
        | int i =>
          simp only [MP.oIx, hm] at q
          cases e : MP.atI xs i with
          | none => rw [e] at q; exact q.elim
          | some z =>
            rw [e] at q
            obtain ⟨p, vs, e1, _, s1, l1⟩ := lst_at M q1 hm
            obtain ⟨z', e2, q3⟩ := l1.atI e
            exact .inl (.inl ⟨p, vs, i, z', e1, int_at q2, SqL.of s1, e2, okP.at q q3 M⟩)
        | _ => simp [MP.oIx, hm] at q
      | rol xs =>
        cases y with
        | int i =>
          simp only [MP.oIx, hm] at q
          cases e : MP.atI xs i with
          | none => rw [e] at q; exact q.elim
          | some z =>
            rw [e] at q
            obtain ⟨p, vs, e1, _, s1, l1⟩ := rol_at M q1 hm
            obtain ⟨z', e2, q3⟩ := l1.atI e
            exact .inl (.inl ⟨p, vs, i, z', e1, int_at q2, s1, e2, okP.at q q3 M⟩)
        | _ => simp [MP.oIx, hm] at q
      | dct lk kvs =>
        simp only [MP.oIx, hm] at q
        cases hk : MP.keyOf y with
        | none => rw [hk] at q; exact q.elim
        | some key =>
          rw [hk] at q
          simp only [Option.bind_some] at q
          obtain ⟨p, vs, e1, _, e2, l1⟩ := dct_at M q1 hm
          rcases SimK.find key l1 with ⟨f1, f2⟩ | ⟨x', v', f1, f2, q3⟩
          · rw [f1] at q; exact q.elim
          · rw [f1] at q
            exact .inr ⟨p, v', e1, .inl ⟨vs, key, e2, key_at q2 hk, f2.symm⟩, okP.at q q3 M⟩
      | ins C fs => simp [MP.oIx, hm] at q
  | _ => exact q.elim
theorem nx_ix : NoEx2 MP.oIx := fun x y m c m' h => by
  unfold MP.oIx at h
  repeat' split at h
  all_goals cases h
theorem le_ix (hu : X.A.units + 1 < cLine) (ha : LE X W ex a ma) (hb : LE X W ex b mb) (hs : PlainIx b) : LE X W ex (.Subscript a b pos) (MP.e2 MP.oIx ma mb) := by
  obtain ⟨ta, p1, g1⟩ := ha
  obtain ⟨tb, p2, g2⟩ := hb
  exact ⟨_, pe_ix (ix_seq.or (ix_dict hu)) p1 p2 hs, g1.bind2 g2 good_ix nx_ix⟩

/-! ### slices -/
def rSlM (X : Cx) : V → Option Int → Option Int → Hp → VK → Prop := fun x l u H Q => rSlL X.K x l u H Q ∨ rSlF X.K x l u H Q ∨ rSlS x l u H Q
theorem sl_m : SlR X (rSlM X) := sl_list.or (sl_tupF.or sl_str)
def GoodO (X : Cx) (W : WX) (ex : ExH) (t : TO) (m : Option ME) : Prop := ∀ (rho : Rho) (fr : Fr) (mem : Mem) (σ : L2.St) (H : Hp) (Q : Option Int → Hp → Prop), SimS X.K ex rho H fr σ → SimM X.K X.mg rho H mem →
  (MP.part m fr mem).wp (fun o m' => ∀ rho' H', Sub rho rho' → Stay H H' → SimM X.K X.mg rho' H' m' → Q o H') (exP X.K X.mg rho H σ W) → t σ H Q
def LO (X : Cx) (W : WX) (ex : ExH) (e : Option Expr) (m : Option ME) : Prop := ∃ t, PO X e t ∧ GoodO X W ex t m
theorem lo_none : LO X W ex none none := ⟨_, po_none, fun rho fr mem σ H Q S M h => h rho H (Sub.refl _) (Stay.refl _) M⟩
theorem lo_some (ha : LE X W ex a ma) : LO X W ex (some a) (some ma) := by
  obtain ⟨ta, p1, g1⟩ := ha
  refine ⟨_, po_some p1, fun rho fr mem σ H Q S M h => ?_⟩
  unfold MP.part at h
  rw [Res.wp_bind] at h
  refine g1 rho fr mem σ H _ S M (Res.wp_mono h (fun x m1 h1 rho1 v H1 s1 t1 q1 M1 => ?_) fun c m1 h1 => h1)
  cases x with
  | int i => exact ⟨i, int_at q1, h1 rho1 H1 s1 t1 M1⟩
  | _ => exact h1.elim
theorem clip_eq (n d : Nat) (o : Option Int) : MP.clip n d o = HT.sIx n d o := by
  cases o with
  | none => rfl
  | some i =>
    unfold MP.clip HT.sIx
    by_cases h : 0 ≤ i
    · simp only [if_pos h, if_neg (show ¬ i < 0 by omega)]
    · simp only [if_neg h, if_pos (show i < 0 by omega)]
theorem cutL_eq {α : Type} (xs : List α) (lo hi : Option Int) : MP.cutL xs lo hi = (xs.drop (HT.sIx xs.length 0 lo)).take (HT.sIx xs.length xs.length hi - HT.sIx xs.length 0 lo) := by
  unfold MP.cutL
  rw [clip_eq, clip_eq, List.drop_take]
theorem SimL.cut {K : PySem.W.Frag} {rho : Rho} {H : Hp} {xs : List MV} {vs : List V} (l : SimL K ex rho H xs vs) (lo hi : Option Int) : SimL K ex rho H (MP.cutL xs lo hi) (cutV vs lo hi) := by
  rw [cutL_eq]
  unfold cutV
  rw [l.length]
  exact (l.drop _).take _
def GoodSl (X : Cx) : Prop := ∀ (ex : ExH) (rho : Rho) (mem : Mem) (H : Hp) (x : MV) (v : V) (lo hi : Option Int) (Q : V → Hp → Prop), SimV X.K ex rho H x v → SimM X.K X.mg rho H mem →
  (MP.oCut x lo hi mem).wp (okP X.K X.mg ex rho H Q) (fun _ _ => False) → rSlM X v lo hi H Q
theorem good_sl : GoodSl X := fun ex rho mem H x v lo hi Q q1 M q => by
  cases x with
  | tup xs =>
    obtain ⟨p, vs, e1, s1, l1⟩ := tup_at q1
    refine .inr (.inl ⟨p, vs, e1, s1, fun hw => ?_, fun _ p' o hp ho => okP.newT q M hp ho (l1.cut lo hi)⟩)
    have e : MP.cutL xs lo hi = xs := by
      rw [cutL_eq, l1.length, hw.1, hw.2]
      simp only [List.drop_zero, Nat.sub_zero]
      exact List.take_of_length_le (Nat.le_of_eq l1.length)
    have q' : okP X.K X.mg ex rho H Q (.tup (MP.cutL xs lo hi)) mem := q
    rw [e] at q'
    rw [e1] at q1
    exact okP.at q' q1 M
  | str s =>
    simp only [MP.oCut] at q
    split at q
    · rename_i hc
      refine .inr (.inr ⟨s, str_at q1, by rw [← line_eq]; exact hc, ?_⟩)
      have e : (⟨(MP.cutL s.cps.toList lo hi).toArray⟩ : Str) = cutS s lo hi := by
        unfold cutS
        rw [cutL_eq]
        simp [Str.length]
      rw [e] at q
      exact okP.at q (SimV.str _) M
    · exact q.elim
  | ref n =>
    cases hm : mem[n]? with
    | none => simp [MP.oCut, hm] at q
    | some o => cases o with
      | lst xs =>
        simp only [MP.oCut, hm] at q
        obtain ⟨p, vs, e1, r1, s1, l1⟩ := lst_at M q1 hm
        obtain ⟨vs', s1', l1'⟩ := M.get r1 hm
        rw [s1] at s1'; cases s1'
        exact .inl ⟨p, vs, e1, SqL.of s1, fun p' hp => okP.new q M hp rfl ⟨_, upd_same, (l1'.cut lo hi).mono (Stay.new hp) (Sub.snoc _ _)⟩⟩
      | rol xs =>
        simp only [MP.oCut, hm] at q
        obtain ⟨p, r1, e1⟩ := ref_at q1
        obtain ⟨vs, h1, l1⟩ := M.get r1 hm
        have s1 : SqL X.K H p vs := by
          rcases h1 with ⟨o, h1⟩ | h1
          · exact .inl (.inr ⟨o, h1⟩)
          · exact .inr h1
        exact .inl ⟨p, vs, e1, s1, fun p' hp => okP.new q M hp rfl ⟨_, upd_same, (l1.cut lo hi).mono (Stay.new hp) (Sub.snoc _ _)⟩⟩
      | _ => simp [MP.oCut, hm] at q
  | _ => exact q.elim
theorem nx_cut {x : MV} {lo hi : Option Int} {m : Mem} (c : Str) (m' : Mem) : MP.oCut x lo hi m ≠ .exc c m' := fun h => by
  unfold MP.oCut MP.new at h
  repeat' split at h
  all_goals cases h
theorem le_cut {lo hi : Option Expr} {ml mh : Option ME} {p2 : Pos} (ha : LE X W ex a ma) (hl : LO X W ex lo ml) (hh : LO X W ex hi mh) : LE X W ex (.Subscript a (.Slice lo hi none p2) pos) (MP.eCut ma ml mh) := by
  obtain ⟨ta, p1, g1⟩ := ha
  obtain ⟨tl, q1, g2⟩ := hl
  obtain ⟨th, q2, g3⟩ := hh
  refine ⟨_, pe_slice sl_m p1 q1 q2, fun rho fr mem σ H Q S M h => ?_⟩
  unfold MP.eCut at h
  rw [Res.wp_bind] at h
  refine g1 rho fr mem σ H _ S M (Res.wp_mono h (fun x m1 h1 rho1 v H1 s1 t1 k1 M1 => ?_) fun c m1 h1 => h1)
  rw [Res.wp_bind] at h1
  refine g2 rho1 fr m1 σ H1 _ (S.mono t1 s1) M1 (Res.wp_mono h1 (fun o1 m2 h2 rho2 H2 s2 t2 M2 => ?_) fun c m2 h2 => exP.trans h2 s1 t1)
  rw [Res.wp_bind] at h2
  refine g3 rho2 fr m2 σ H2 _ (S.mono (t1.trans t2) (s1.trans s2)) M2 (Res.wp_mono h2 (fun o2 m3 h3 rho3 H3 s3 t3 M3 => ?_) fun c m3 h3 => exP.trans h3 (s1.trans s2) (t1.trans t2))
  exact good_sl ex rho3 m3 H3 x v o1 o2 Q (k1.mono (t2.trans t3) (s2.trans s3)) M3 (wp_noex (Res.wp_mono h3 (fun z m4 h4 => okP.trans h4 (s1.trans (s2.trans s3)) (t1.trans (t2.trans t3))) fun _ _ h => h) nx_cut)
end
end ML

/-! MLinkG: truth, and, or, not, chains, arguments, displays, fields, statements. -/
namespace ML
open PySem PySem.Spec PyProof.Rows L2
open MP (MV MO Mem Fr ME MA MT MS MG MI MFn Res SR)

theorem mem_ok {K : PySem.W.Frag} {mg : Str → Option Value} {ex : ExH} {rho r1 : Rho} {H H1 : Hp} {Q : V → Hp → Prop} {o : MO} {m : Mem} {E : Str → Mem → Prop} (h : (MP.new o m).wp (okP K mg ex rho H Q) E) (hr : Sub rho r1) (hs : Stay H H1) : (MP.new o m).wp (okP K mg ex r1 H1 Q) (fun _ _ => False) :=
  okP.trans h hr hs
section
variable {X : Cx} {W : WX} {ex : ExH} {a b c e : Expr} {ma mb mc me : ME} {ta' tb' tc' : MT} {pos : Pos}
/-! ### truth -/
def rTru (X : Cx) : V → Hp → (Bool → Hp → Prop) → Prop := fun x H Q => (∃ k, TruV X.K x H k ∧ Q k H) ∨ ∃ p kvs, x = .ref p ∧ Rd H p (.dK kvs) ∧ Q (!kvs.isEmpty) H
theorem tru_m : TruR X (rTru X) := fun pins s σ H x v Q I rx h => by
  rcases h with h | ⟨p, kvs, rfl, e, q⟩
  · exact tru_ok pins s σ H x v Q I rx h
  · cases rx
    exact d_truth I e fun s' I' => ⟨H, I', q⟩
theorem SimL.isEmpty {K : PySem.W.Frag} {rho : Rho} {H : Hp} {xs : List MV} {vs : List V} (l : SimL K ex rho H xs vs) : vs.isEmpty = xs.isEmpty := by
  have := l.length
  cases xs <;> cases vs <;> first | rfl | (simp at this)
theorem SimP.isEmpty {K : PySem.W.Frag} {rho : Rho} {H : Hp} {xs : List (Key × MV)} {vs : List (Key × V)} (l : SimP K ex rho H xs vs) : vs.isEmpty = xs.isEmpty := by
  cases l <;> rfl
theorem good_truth {rho : Rho} {mem : Mem} {H : Hp} {x : MV} {v : V} {Q : Bool → Hp → Prop} {E : Str → Mem → Prop} (q1 : SimV X.K ex rho H x v) (M : SimM X.K X.mg rho H mem) (q : (MP.truth x mem).wp (okB X.K X.mg rho H Q) E) : rTru X v H Q := by
  have fin : ∀ k, okB X.K X.mg rho H Q k mem → Q k H := fun k h => h rho H (Sub.refl _) (Stay.refl _) M
  cases x with
  | non => exact .inl ⟨false, by rw [non_at q1]; rfl, fin _ q⟩
  | bl k => exact .inl ⟨k, by rw [bl_at q1]; rfl, fin _ q⟩
  | int i => exact .inl ⟨_, by rw [int_at q1]; rfl, fin _ q⟩
  | str s =>
    simp only [MP.truth] at q
    split at q
    · rename_i hc
      refine .inl ⟨_, by rw [str_at q1]; exact ⟨by rw [← line_eq]; exact hc, rfl⟩, ?_⟩
      have e : ((s.length : Int) != 0) = (s.length != 0) := by
        rw [Bool.eq_iff_iff]
        simp
      rw [e]
      exact fin _ q
    · exact q.elim
  | tup xs =>
    obtain ⟨p, vs, e1, s1, l1⟩ := tup_at q1
    refine .inl ⟨_, by rw [e1]; exact .inr (.inl ⟨vs, s1, rfl⟩), ?_⟩
    rw [l1.isEmpty]
    exact fin _ q
  | ref n =>
    cases hm : mem[n]? with
    | none => simp [MP.truth, hm] at q
    | some o => cases o with
      | lst xs =>
        simp only [MP.truth, hm] at q
        obtain ⟨p, vs, e1, _, s1, l1⟩ := lst_at M q1 hm
        refine .inl ⟨_, by rw [e1]; exact .inl ⟨vs, SqL.of s1, rfl⟩, ?_⟩
        rw [l1.isEmpty]
        exact fin _ q
      | dct lk kvs =>
        simp only [MP.truth, hm] at q
        obtain ⟨p, vs, e1, _, s1, l1⟩ := dct_at M q1 hm
        refine .inr ⟨p, vs, e1, s1, ?_⟩
        rw [l1.isEmpty]
        exact fin _ q
      | _ => simp [MP.truth, hm] at q
  | exn c => exact q.elim
theorem GoodE.truth {t : TE} {m : ME} (g : GoodE X W ex t m) : GoodT X W ex (fun σ H Q => t σ H fun x H' => rTru X x H' Q) (MP.tE m) := fun rho fr mem σ H Q S M h => by
  unfold MP.tE at h
  rw [Res.wp_bind] at h
  refine g rho fr mem σ H _ S M (Res.wp_mono h (fun x m1 h1 rho1 v H1 s1 t1 q1 M1 => ?_) fun c m1 h1 => h1)
  exact good_truth q1 M1 (Res.wp_mono h1 (fun k m2 h2 => okB.trans h2 s1 t1) fun _ _ h => h)
theorem lt_truth (ha : LE X W ex a ma) (he : ∀ whole, isTrue a X.env whole = (do let v ← whole; standAt a.pos; holding [v] (truthy v)) := by intro _; rfl) : LT X W ex a (MP.tE ma) := by
  obtain ⟨ta, p1, g1⟩ := ha
  exact ⟨_, pt_truthR p1 tru_m he, g1.truth⟩

/-! ### and, or, not of tests -/
theorem LW.pt (h : LW X W ex e ta') : LT X W ex e ta' := by
  obtain ⟨t, p, g⟩ := h
  exact ⟨t, ⟨fun pins s σ H Q I q => p.run _ pins s σ H Q I q⟩, g⟩
theorem lw_and1 (ha : LT X W ex a ta') : LW X W ex (.BoolOp .And [a] pos) ta' := let ⟨_, p, g⟩ := ha; ⟨_, pw_and1 p, g⟩
theorem lw_or1 (ha : LT X W ex a ta') : LW X W ex (.BoolOp .Or [a] pos) ta' := let ⟨_, p, g⟩ := ha; ⟨_, pw_or1 p, g⟩
theorem lw_and {rest : List Expr} (ha : LT X W ex a ta') (hb : LW X W ex (.BoolOp .And (b :: rest) pos) tb') : LW X W ex (.BoolOp .And (a :: b :: rest) pos) (MP.tAnd ta' tb') := by
  obtain ⟨t1, p1, g1⟩ := ha
  obtain ⟨t2, p2, g2⟩ := hb
  refine ⟨_, pw_and p1 p2, fun rho fr mem σ H Q S M h => ?_⟩
  unfold MP.tAnd at h
  rw [Res.wp_bind] at h
  refine g1 rho fr mem σ H _ S M (Res.wp_mono h (fun k m1 h1 rho1 H1 s1 t1 M1 => ?_) fun c m1 h1 => h1)
  cases k with
  | true => exact g2 rho1 fr m1 σ H1 _ (S.mono t1 s1) M1 (Res.wp_mono h1 (fun k m2 h2 => okB.trans h2 s1 t1) fun c m2 h2 => exP.trans h2 s1 t1)
  | false => exact h1 rho1 H1 s1 t1 M1
theorem lw_or {rest : List Expr} (ha : LT X W ex a ta') (hb : LW X W ex (.BoolOp .Or (b :: rest) pos) tb') : LW X W ex (.BoolOp .Or (a :: b :: rest) pos) (MP.tOr ta' tb') := by
  obtain ⟨t1, p1, g1⟩ := ha
  obtain ⟨t2, p2, g2⟩ := hb
  refine ⟨_, pw_or p1 p2, fun rho fr mem σ H Q S M h => ?_⟩
  unfold MP.tOr at h
  rw [Res.wp_bind] at h
  refine g1 rho fr mem σ H _ S M (Res.wp_mono h (fun k m1 h1 rho1 H1 s1 t1 M1 => ?_) fun c m1 h1 => h1)
  cases k with
  | false => exact g2 rho1 fr m1 σ H1 _ (S.mono t1 s1) M1 (Res.wp_mono h1 (fun k m2 h2 => okB.trans h2 s1 t1) fun c m2 h2 => exP.trans h2 s1 t1)
  | true => exact h1 rho1 H1 s1 t1 M1
theorem lt_not (ha : LT X W ex a ta') : LT X W ex (.UnaryOp .Not a pos) (MP.tNot ta') := by
  obtain ⟨t1, p1, g1⟩ := ha
  refine ⟨_, pt_not p1, fun rho fr mem σ H Q S M h => ?_⟩
  unfold MP.tNot at h
  rw [Res.wp_bind] at h
  exact g1 rho fr mem σ H _ S M (Res.wp_mono h (fun k m1 h1 rho1 H1 s1 t1 M1 => h1 rho1 H1 s1 t1 M1) fun c m1 h1 => h1)

/-! ### and, or, not as values -/
theorem le_one {op} (ha : LE X W ex a ma) : LE X W ex (.BoolOp op [a] pos) ma := let ⟨_, p, g⟩ := ha; ⟨_, pe_one p, g⟩
theorem le_and {rest : List Expr} (ha : LE X W ex a ma) (hb : LE X W ex (.BoolOp .And (b :: rest) pos) mb) : LE X W ex (.BoolOp .And (a :: b :: rest) pos) (MP.eAnd ma mb) := by
  obtain ⟨t1, p1, g1⟩ := ha
  obtain ⟨t2, p2, g2⟩ := hb
  refine ⟨_, pe_and p1 p2, fun rho fr mem σ H Q S M h => ?_⟩
  unfold MP.eAnd at h
  rw [Res.wp_bind] at h
  refine g1 rho fr mem σ H _ S M (Res.wp_mono h (fun x m1 h1 rho1 v H1 s1 t1 q1 M1 => ?_) fun c m1 h1 => h1)
  cases x with
  | bl k =>
    refine ⟨k, bl_at q1, ?_⟩
    cases k with
    | true => exact g2 rho1 fr m1 σ H1 _ (S.mono t1 s1) M1 (Res.wp_mono h1 (fun k m2 h2 => okP.trans h2 s1 t1) fun c m2 h2 => exP.trans h2 s1 t1)
    | false => exact h1 rho1 _ H1 s1 t1 (SimV.bl _) M1
  | _ => exact h1.elim
theorem le_or {rest : List Expr} (ha : LE X W ex a ma) (hb : LE X W ex (.BoolOp .Or (b :: rest) pos) mb) : LE X W ex (.BoolOp .Or (a :: b :: rest) pos) (MP.eOr ma mb) := by
  obtain ⟨t1, p1, g1⟩ := ha
  obtain ⟨t2, p2, g2⟩ := hb
  refine ⟨_, pe_or p1 p2, fun rho fr mem σ H Q S M h => ?_⟩
  unfold MP.eOr at h
  rw [Res.wp_bind] at h
  refine g1 rho fr mem σ H _ S M (Res.wp_mono h (fun x m1 h1 rho1 v H1 s1 t1 q1 M1 => ?_) fun c m1 h1 => h1)
  cases x with
  | bl k =>
    refine ⟨k, bl_at q1, ?_⟩
    cases k with
    | false => exact g2 rho1 fr m1 σ H1 _ (S.mono t1 s1) M1 (Res.wp_mono h1 (fun k m2 h2 => okP.trans h2 s1 t1) fun c m2 h2 => exP.trans h2 s1 t1)
    | true => exact h1 rho1 _ H1 s1 t1 (SimV.bl _) M1
  | _ => exact h1.elim
/-- by truth: the readings of a value's truth and of the rest -/
def tOrM (X : Cx) (ta tb : TE) : TE := fun σ H Q => ta σ H fun x H1 => rTru X x H1 fun k H2 => if k = true then Q x H2 else tb σ H2 Q
theorem rTru_same {x : V} {H : Hp} {Q : Bool → Hp → Prop} (h : rTru X x H Q) : ∃ k, rTru X x H (fun c H2 => c = k ∧ H2 = H) ∧ Q k H := by
  rcases h with ⟨k, e, q⟩ | ⟨p, kvs, e1, e2, q⟩
  · exact ⟨k, .inl ⟨k, e, rfl, rfl⟩, q⟩
  · exact ⟨_, .inr ⟨p, kvs, e1, e2, rfl, rfl⟩, q⟩
theorem pe_orM {rest : List Expr} {ta tb : TE} (ha : PE X a ta) (hb : PE X (.BoolOp .Or (b :: rest) pos) tb) : PE X (.BoolOp .Or (a :: b :: rest) pos) (tOrM X ta tb) := by
  refine ⟨fun pins s σ H Q I h => ?_⟩
  refine BoolOp_or (thn (ha.run pins s σ H _ I h) fun v s1 ⟨x, H1, I1, r1, q1⟩ => ?_)
  obtain ⟨k, e, q1⟩ := rTru_same q1
  refine thn (tru_m pins s1 σ H1 x v (fun c H2 => c = k ∧ H2 = H1) I1 r1 e) fun c s2 hc => ?_
  obtain ⟨H2, I2, e1, e2⟩ := hc
  rw [e2] at I2
  rw [← e1] at q1
  cases c with
  | true => exact ⟨x, H1, I2, r1, q1⟩
  | false => exact hb.run pins s2 σ H1 Q I2 q1
theorem le_orT {rest : List Expr} (ha : LE X W ex a ma) (hb : LE X W ex (.BoolOp .Or (b :: rest) pos) mb) : LE X W ex (.BoolOp .Or (a :: b :: rest) pos) (MP.eOrT ma mb) := by
  obtain ⟨t1, p1, g1⟩ := ha
  obtain ⟨t2, p2, g2⟩ := hb
  refine ⟨_, pe_orM p1 p2, fun rho fr mem σ H Q S M h => ?_⟩
  unfold MP.eOrT at h
  rw [Res.wp_bind] at h
  refine g1 rho fr mem σ H _ S M (Res.wp_mono h (fun x m1 h1 rho1 v H1 s1 t1 q1 M1 => ?_) fun c m1 h1 => h1)
  rw [Res.wp_bind] at h1
  refine good_truth (ex := ex) q1 M1 (Res.wp_mono h1 (fun k m2 h2 rho2 H2 s2 t2 M2 => ?_) fun _ _ h => h)
  cases k with
  | true => exact h2 rho2 _ H2 (s1.trans s2) (t1.trans t2) (q1.mono t2 s2) M2
  | false => exact g2 rho2 fr m2 σ H2 _ (S.mono (t1.trans t2) (s1.trans s2)) M2 (Res.wp_mono h2 (fun k m2 h2 => okP.trans h2 (s1.trans s2) (t1.trans t2)) fun c m2 h2 => exP.trans h2 (s1.trans s2) (t1.trans t2))
theorem pe_notM {t : TE} (ha : PE X a t) : PE X (.UnaryOp .Not a pos) (fun σ H Q => t σ H fun x H1 => rTru X x H1 fun k H2 => Q (.bl (!k)) H2) := by
  refine ⟨fun pins s σ H Q I h => ?_⟩
  refine UnaryOp_ (thn (ha.run pins s σ H _ I h) fun v s1 ⟨x, H1, I1, r1, q1⟩ => ?_)
  exact not_of (thn (tru_m pins s1 σ H1 x v (fun c H2 => Q (.bl (!c)) H2) I1 r1 q1) fun c s2 ⟨H2, I2, q2⟩ => ⟨.bl (!c), H2, I2, rfl, q2⟩)
theorem le_not (ha : LE X W ex a ma) : LE X W ex (.UnaryOp .Not a pos) (MP.eNot (MP.tE ma)) := by
  obtain ⟨t1, p1, g1⟩ := ha
  refine ⟨_, pe_notM p1, fun rho fr mem σ H Q S M h => ?_⟩
  unfold MP.eNot MP.tE at h
  rw [Res.wp_bind, Res.wp_bind] at h
  refine g1 rho fr mem σ H _ S M (Res.wp_mono h (fun x m1 h1 rho1 v H1 s1 t1 q1 M1 => ?_) fun c m1 h1 => h1)
  exact good_truth (ex := ex) q1 M1 (Res.wp_mono h1 (fun k m2 h2 rho2 H2 s2 t2 M2 => h2 rho2 _ H2 (s1.trans s2) (t1.trans t2) (SimV.bl _) M2) fun _ _ h => h)
theorem le_if (hc : LT X W ex c tc') (ha : LE X W ex a ma) (hb : LE X W ex b mb) : LE X W ex (.IfExp c a b pos) (MP.eIf tc' ma mb) := by
  obtain ⟨t0, p0, g0⟩ := hc
  obtain ⟨t1, p1, g1⟩ := ha
  obtain ⟨t2, p2, g2⟩ := hb
  refine ⟨_, pe_ifExp p0 p1 p2, fun rho fr mem σ H Q S M h => ?_⟩
  unfold MP.eIf at h
  rw [Res.wp_bind] at h
  refine g0 rho fr mem σ H _ S M (Res.wp_mono h (fun k m1 h1 rho1 H1 s1 t1 M1 => ?_) fun c m1 h1 => h1)
  cases k with
  | true => exact g1 rho1 fr m1 σ H1 _ (S.mono t1 s1) M1 (Res.wp_mono h1 (fun k m2 h2 => okP.trans h2 s1 t1) fun c m2 h2 => exP.trans h2 s1 t1)
  | false => exact g2 rho1 fr m1 σ H1 _ (S.mono t1 s1) M1 (Res.wp_mono h1 (fun k m2 h2 => okP.trans h2 s1 t1) fun c m2 h2 => exP.trans h2 s1 t1)
theorem GoodE.chain {t1 t2 t3 : TE} {r r' : R2} {f f' : MV → MV → Mem → Res MV} (g1 : GoodE X W ex t1 ma) (g2 : GoodE X W ex t2 mb) (g3 : GoodE X W ex t3 mc) (gr : GoodR2 X r f) (hn : NoEx2 f) (gr' : GoodR2 X r' f') (hn' : NoEx2 f') :
    GoodE X W ex (tChain r r' t1 t2 t3) (MP.eChain f f' ma mb mc) := fun rho fr mem σ H Q S M h => by
  unfold MP.eChain at h
  rw [Res.wp_bind] at h
  refine g1 rho fr mem σ H _ S M (Res.wp_mono h (fun x m1 h1 rho1 v H1 s1 t1 q1 M1 => ?_) fun c m1 h1 => h1)
  rw [Res.wp_bind] at h1
  refine g2 rho1 fr m1 σ H1 _ (S.mono t1 s1) M1 (Res.wp_mono h1 (fun y m2 h2 rho2 w H2 s2 t2 q2 M2 => ?_) fun c m2 h2 => exP.trans h2 s1 t1)
  rw [Res.wp_bind] at h2
  have n2 : ∀ c m, f x y m2 ≠ .exc c m := hn x y m2
  refine gr ex rho2 m2 H2 x y v w _ (q1.mono t2 s2) q2 M2 (wp_noex (Res.wp_mono h2 (fun z m3 h3 rho3 z' H3 s3 t3 q3 M3 => ?_) fun _ _ h => h) n2)
  cases z with
  | bl k =>
    refine ⟨k, bl_at q3, ?_⟩
    have T := t1.trans (t2.trans t3)
    have U := s1.trans (s2.trans s3)
    cases k with
    | false => exact h3 rho3 _ H3 U T (SimV.bl _) M3
    | true =>
      rw [if_pos rfl]
      simp only at h3
      rw [Res.wp_bind] at h3
      refine g3 rho3 fr m3 σ H3 _ (S.mono T U) M3 (Res.wp_mono h3 (fun u m4 h4 rho4 u' H4 s4 t4 q4 M4 => ?_) fun c m4 h4 => exP.trans h4 U T)
      exact gr' ex rho4 m4 H4 y u w u' Q (q2.mono (t3.trans t4) (s3.trans s4)) q4 M4 (wp_noex (Res.wp_mono h4 (fun z m5 h5 => okP.trans h5 (U.trans s4) (T.trans t4)) fun _ _ h => h) (hn' y u m4))
  | _ => exact h3.elim
theorem le_chain {op op' : CmpOp} {r r' : R2} {f f' : MV → MV → Mem → Res MV} (o : OpR X (compareOp op) r) (gr : GoodR2 X r f) (hn : NoEx2 f) (o' : OpR X (compareOp op') r') (gr' : GoodR2 X r' f') (hn' : NoEx2 f') (ha : LE X W ex a ma) (hb : LE X W ex b mb) (hc : LE X W ex c mc)
    (hm : lastMarks [op, op'] [b, c] = false := by with_unfolding_all rfl) : LE X W ex (.Compare a [op, op'] [b, c] pos) (MP.eChain f f' ma mb mc) := by
  obtain ⟨t1, p1, g1⟩ := ha
  obtain ⟨t2, p2, g2⟩ := hb
  obtain ⟨t3, p3, g3⟩ := hc
  exact ⟨_, pe_chain o o' p1 p2 p3 hm, g1.chain g2 g3 gr hn gr' hn'⟩
theorem lt_chain {op op' : CmpOp} {r r' : R2} {f f' : MV → MV → Mem → Res MV} (o : OpR X (compareOp op) r) (gr : GoodR2 X r f) (hn : NoEx2 f) (o' : OpR X (compareOp op') r') (gr' : GoodR2 X r' f') (hn' : NoEx2 f') (ha : LE X W ex a ma) (hb : LE X W ex b mb) (hc : LE X W ex c mc)
    (hm : lastMarks [op, op'] [b, c] = false := by with_unfolding_all rfl) : LT X W ex (.Compare a [op, op'] [b, c] pos) (MP.tB (MP.eChain f f' ma mb mc)) := by
  obtain ⟨t1, p1, g1⟩ := ha
  obtain ⟨t2, p2, g2⟩ := hb
  obtain ⟨t3, p3, g3⟩ := hc
  exact ⟨_, pt_chain o o' p1 p2 p3 hm, good_tB (g1.chain g2 g3 gr hn gr' hn')⟩

/-! ### arguments, tuples, lists -/
theorem la_nil : LA X W ex [] (MP.aL []) := ⟨_, pa_nil, fun rho fr mem σ H Q S M h => h rho [] H (Sub.refl _) (Stay.refl _) SimL.nil M⟩
theorem la_cons {es : List Expr} {ms : List ME} (ha : LE X W ex e me) (hr : LA X W ex es (MP.aL ms)) (hs : starEach (e :: es) X.env = (false, eval e X.env) :: starEach es X.env := by rfl) : LA X W ex (e :: es) (MP.aL (me :: ms)) := by
  obtain ⟨t1, p1, g1⟩ := ha
  obtain ⟨t2, p2, g2⟩ := hr
  refine ⟨_, pa_cons p1 p2 hs, fun rho fr mem σ H Q S M h => ?_⟩
  unfold MP.aL MP.aCons at h
  rw [Res.wp_bind] at h
  refine g1 rho fr mem σ H _ S M (Res.wp_mono h (fun x m1 h1 rho1 v H1 s1 t1 q1 M1 => ?_) fun c m1 h1 => h1)
  rw [Res.wp_bind] at h1
  refine g2 rho1 fr m1 σ H1 _ (S.mono t1 s1) M1 (Res.wp_mono h1 (fun xs m2 h2 rho2 vs H2 s2 t2 l2 M2 => ?_) fun c m2 h2 => exP.trans h2 s1 t1)
  exact h2 rho2 _ H2 (s1.trans s2) (t1.trans t2) (SimL.cons (q1.mono t2 s2) l2) M2
theorem le_tup {es : List Expr} {ms : MA} {x1} (h : LA X W ex es ms) : LE X W ex (.Tuple es x1 pos) (MP.eTup ms) := by
  obtain ⟨t1, p1, g1⟩ := h
  refine ⟨_, pe_tupF p1, fun rho fr mem σ H Q S M h => ?_⟩
  unfold MP.eTup at h
  rw [Res.wp_bind] at h
  refine g1 rho fr mem σ H _ S M (Res.wp_mono h (fun xs m1 h1 rho1 vs H1 s1 t1 l1 M1 => ?_) fun c m1 h1 => h1)
  split at h1
  · rename_i hc
    refine ⟨by rw [← l1.length, ← line_eq]; exact hc, fun p o hp ho => ?_⟩
    exact okP.newT (okP.trans h1 s1 t1) M1 hp ho l1
  · exact h1.elim
theorem le_lst {es : List Expr} {ms : MA} (h : LA X W none es ms) : LE X W none (.List es pos) (MP.eLst ms) := by
  obtain ⟨t1, p1, g1⟩ := h
  refine ⟨_, pe_lst p1, fun rho fr mem σ H Q S M h => ?_⟩
  unfold MP.eLst at h
  rw [Res.wp_bind] at h
  refine g1 rho fr mem σ H _ S M (Res.wp_mono h (fun xs m1 h1 rho1 vs H1 s1 t1 l1 M1 => ?_) fun c m1 h1 => h1)
  split at h1
  · rename_i hc
    refine ⟨by rw [← l1.length, ← line_eq]; exact hc, fun p hp => ?_⟩
    exact okP.new (mem_ok h1 s1 t1) M1 hp rfl ⟨_, upd_same, l1.mono (Stay.new hp) (Sub.snoc _ _)⟩
  · exact h1.elim
theorem le_dct0 : LE X W none (.Dict [] [] pos) MP.eDct0 := ⟨_, pe_dnewK, fun rho fr mem σ H Q S M h p hp =>
  okP.new (mem_ok h (Sub.refl _) (Stay.refl _)) M hp rfl ⟨_, upd_same, .nil⟩⟩

/-! ### fields -/
structure CF (K : PySem.W.Frag) (mg : Str → Option Value) (C f : Str) : Prop where
  ex : ∀ Ca, mg C = some (.ref Ca) → Cls K Ca ∧ NoAttr K Ca f
theorem le_fld {C f : Str} (cf : CF X.K X.mg C f) (ha : LE X W ex e me) (hb : attributeBase e f X.env (eval e X.env) = eval e X.env := by rfl) : LE X W ex (.Attribute e f pos) (MP.e1 (MP.oFld C f) me) := by
  obtain ⟨t1, p1, g1⟩ := ha
  refine ⟨_, pe_fld p1 hb, fun rho fr mem σ H Q S M h => ?_⟩
  unfold MP.e1 at h
  rw [Res.wp_bind] at h
  refine g1 rho fr mem σ H _ S M (Res.wp_mono h (fun x m1 h1 rho1 v H1 s1 t1 q1 M1 => ?_) fun c m1 h1 => h1)
  cases x with
  | ref n =>
    cases hm : m1[n]? with
    | none => simp [MP.oFld, hm] at h1
    | some o => cases o with
      | ins D fs =>
        simp only [MP.oFld, hm] at h1
        split at h1
        · rename_i hD
          subst hD
          obtain ⟨a, Ca, dx, vs, e1, r1, hC, e2, l1⟩ := ins_at M1 q1 hm
          rcases SimF.find f l1 with ⟨f1, f2⟩ | ⟨x', v', f1, f2, q3⟩
          · rw [f1] at h1; exact h1.elim
          · rw [f1] at h1
            exact ⟨a, Ca, dx, vs, v', e1, e2, (cf.ex Ca hC).1, (cf.ex Ca hC).2, f2, h1 rho1 v' H1 s1 t1 (q3.ex0 ex) M1⟩
        · exact h1.elim
      | _ => simp [MP.oFld, hm] at h1
  | _ => exact h1.elim
end
end ML

/-! MLinkH: targets, statements without loops, while. -/
namespace ML
open PySem PySem.Spec PyProof.Rows L2
open MP (MV MO Mem Fr ME MA MT MS MG MI MFn Res SR)
theorem wp_ofRes {α : Type} (r : Res α) (fr : Fr) (f : α → Mem → SR) (P : SR.Post) : (MP.ofRes r fr f).wp P = r.wp (fun a m => (f a m).wp P) (fun c m => P.ex c fr m) := by cases r <;> rfl
theorem ex_exP {K : PySem.W.Frag} {mg : Str → Option Value} {ex : ExH} {rho r1 : Rho} {H H1 : Hp} {D : Ends} {W : WX} {fr : Fr} {σ : L2.St} {c : Str} {m : Mem} (h : (post K mg ex rho H D W).ex c fr m) (S : SimS K ex r1 H1 fr σ) (hr : Sub rho r1) (hs : Stay H H1) : exP K mg r1 H1 σ W c m :=
  fun r2 C H2 a b e M => h r2 C σ H2 (hr.trans a) (hs.trans b) e (S.mono b a) M
section
variable {X : Cx} {W : WX} {ex : ExH} {a b c e o i : Expr} {ma mb mc me mo mi : ME} {pos : Pos} {N : List (Str × Nat × Bool)} {G : List Str} {g : MG}
/-! ### targets -/
theorem lg_name (nm : Nm X N G) (j : Nat) {k : Nat} {x : Str} (hx : N[j]? = some (x, k, true) := by rfl) : LG X W ex (.Name x pos) (MP.gName k) := by
  obtain ⟨h1, h2⟩ := nm.st j x k hx
  exact ⟨_, pg_name nm.nd (nm.n j x k true hx).1 h1 h2, fun rho x v fr mem σ H Q D S M q h => h rho _ H (Sub.refl _) (Stay.refl _) (S.set k q) M⟩
def GoodGs (X : Cx) (W : WX) (ex : ExH) (t : TGs) (m : List MG) : Prop := ∀ (rho : Rho) (xs : List MV) (vs : List V) (fr : Fr) (mem : Mem) (σ : L2.St) (H : Hp) (Q : L2.St → Hp → Prop) (D : Ends), SimS X.K ex rho H fr σ → SimM X.K X.mg rho H mem → SimL X.K ex rho H xs vs →
  (MP.gAll m xs fr mem).wp (post X.K X.mg ex rho H { D with nx := Q } W) → t vs σ H Q
def LGs (X : Cx) (W : WX) (ex : ExH) (es : List Expr) (m : List MG) : Prop := ∃ t, PGs X es t ∧ GoodGs X W ex t m
theorem lgs_nil : LGs X W ex [] [] := ⟨_, pgs_nil, fun rho xs vs fr mem σ H Q D S M l h => by
  cases xs with
  | nil => exact ⟨l.inv_nil, h rho σ H (Sub.refl _) (Stay.refl _) S M⟩
  | cons x xs => exact h.elim⟩
theorem lgs_cons {es : List Expr} {gs : List MG} (h1 : LG X W ex e g) (h2 : LGs X W ex es gs) (hs : (assignEach (e :: es) X.env).map (·.2) = assign e X.env :: (assignEach es X.env).map (·.2) := by rfl) : LGs X W ex (e :: es) (g :: gs) := by
  obtain ⟨t1, p1, g1⟩ := h1
  obtain ⟨t2, p2, g2⟩ := h2
  refine ⟨_, pgs_cons p1 p2 hs, fun rho xs vs fr mem σ H Q D S M l h => ?_⟩
  cases xs with
  | nil => exact h.elim
  | cons x xs =>
    obtain ⟨v, vs', rfl, q, l'⟩ := l.inv_cons
    refine ⟨v, vs', rfl, ?_⟩
    unfold MP.gAll at h
    rw [SR.wp_andThen] at h
    refine g1 rho x v fr mem σ H _ D S M q (SR.wp_mono h (fun fr1 m1 h1 r1 σ1 H1 s1 t1 S1 M1 => ?_) (fun _ _ h => h) (fun _ _ h => h) (fun _ _ h => h) (fun _ _ _ h => h))
    exact g2 r1 xs vs' fr1 m1 σ1 H1 Q D S1 M1 (l'.mono t1 s1) (post.trans h1 s1 t1)
theorem PG.unl {es : List Expr} {k : Nat} {t : TGs} {n : Nat} (hc : X.calm = true) (h : PGs X es t) (hn : (assignEach es X.env).length = n) (hst : (assignEach es X.env).findIdx? (·.1) = none) :
    PG X (.Tuple es k pos) (fun v σ H Q => gTup X.K n t v σ H Q ∨ gLst X.K n t v σ H Q) := PG.or (pg_tup hc h hn hst) (pg_lst hc h hn hst)
theorem gAll_len : ∀ {gs : List MG} {xs : List MV} {fr : Fr} {m : Mem} {P : SR.Post}, (MP.gAll gs xs fr m).wp P → True := fun _ => trivial
theorem lg_tup {es : List Expr} {gs : List MG} {k n : Nat} (hc : X.calm = true) (h : LGs X W ex es gs) (hl : gs.length = n) (hn : (assignEach es X.env).length = n := by rfl) (hst : (assignEach es X.env).findIdx? (·.1) = none := by rfl) : LG X W ex (.Tuple es k pos) (MP.gTup gs) := by
  obtain ⟨t, p, g⟩ := h
  refine ⟨_, PG.unl hc p hn hst, fun rho x v fr mem σ H Q D S M q h => ?_⟩
  cases x with
  | tup xs =>
    obtain ⟨a, vs, rfl, s1, l1⟩ := tup_at q
    have h' : (if xs.length = gs.length then MP.gAll gs xs fr mem else .bad).wp (post X.K X.mg ex rho H { D with nx := Q } W) := h
    split at h'
    · rename_i hlen
      exact .inl ⟨a, vs, rfl, s1, by rw [← l1.length, hlen, hl], g rho xs vs fr mem σ H Q D S M l1 h'⟩
    · exact h'.elim
  | ref n =>
    cases hm : mem[n]? with
    | none => simp [MP.gTup, hm] at h
    | some o => cases o with
      | lst xs =>
        simp only [MP.gTup, hm] at h
        obtain ⟨a, vs, rfl, _, s1, l1⟩ := lst_at M q hm
        split at h
        · rename_i hlen
          exact .inr ⟨a, vs, rfl, SqL.of s1, by rw [← l1.length, hlen, hl], g rho xs vs fr mem σ H Q D S M l1 h⟩
        · exact h.elim
      | _ => simp [MP.gTup, hm] at h
  | _ => exact h.elim

/-- o[i] = v -/
def tSetM : TSet := fun o i v H Q => rSetL o i v H Q ∨ rSetD o i v H Q
theorem set_m (hu : X.A.units + 1 < cLine) : PSet X tSetM := fun pins s σ H o i v ov iv u Q I r1 r2 r3 h => by
  rcases h with h | h
  · exact set_list pins s σ H o i v ov iv u Q I r1 r2 r3 h
  · exact set_dict hu pins s σ H o i v ov iv u Q I r1 r2 r3 h
theorem atN_eq (n : Nat) (i : Int) : MP.atN n i = ixN n i := by
  unfold MP.atN ixN
  by_cases h0 : 0 ≤ i
  · rw [if_pos h0, if_pos h0]
  · rw [if_neg h0, if_neg h0]
    by_cases h1 : 0 ≤ i + (n : Int)
    · rw [if_pos h1, if_pos (by omega)]
    · rw [if_neg h1, if_neg (by omega)]
theorem put_ok {rho : Rho} {mem m3 : Mem} {H : Hp} {x y z : MV} {v w u : V} {Q : Hp → Prop} (q1 : SimV X.K none rho H x v) (q2 : SimV X.K none rho H y w) (q3 : SimV X.K none rho H z u) (M : SimM X.K X.mg rho H mem) (h : MP.putIx x y z mem = some m3)
    (k : ∀ H', Stay H H' → SimM X.K X.mg rho H' m3 → Q H') : tSetM v w u H Q := by
  cases x with
  | ref n =>
    cases hm : mem[n]? with
    | none => simp [MP.putIx, hm] at h
    | some o => cases o with
      | lst xs =>
        cases y with
        | int i =>
          simp only [MP.putIx, hm] at h
          cases e : MP.atN xs.length i with
          | none => rw [e] at h; cases h
          | some j =>
            rw [e] at h; cases h
            obtain ⟨a, vs, rfl, r1, s1, l1⟩ := lst_at M q1 hm
            refine .inl ⟨a, vs, i, j, rfl, int_at q2, s1, by rw [← l1.length, ← atN_eq]; exact e, ?_⟩
            have st : Stay H (upd H a (.lst (vs.set j u))) := Stay.write s1 (fun _ z => nomatch z) (fun _ _ z => nomatch z)
            exact k _ st (M.write r1 hm s1 (fun _ z => nomatch z) (fun _ _ z => nomatch z) rfl rfl ⟨_, upd_same, (SimL.set q3 j l1).mono st (Sub.refl _)⟩)
        | _ => simp [MP.putIx, hm] at h
      | dct lk kvs =>
        cases lk with
        | true => simp [MP.putIx, hm] at h
        | false =>
          simp only [MP.putIx, hm] at h
          cases e : MP.keyOf y with
          | none => rw [e] at h; cases h
          | some key =>
            rw [e] at h
            simp only at h
            split at h
            · rename_i hc
              cases h
              obtain ⟨a, vs, rfl, r1, s1, l1⟩ := dct0_at M q1 hm
              have st : Stay H (upd H a (.dK (putK vs key u))) := Stay.write s1 (fun _ z => nomatch z) (fun _ _ z => nomatch z)
              refine .inr ⟨a, _, rfl, .inl ⟨vs, key, s1, key_at q2 e, by rw [← l1.length, ← line_eq]; exact hc, rfl⟩, ?_⟩
              exact k _ st (M.write r1 hm s1 (fun _ z => nomatch z) (fun _ _ z => nomatch z) rfl rfl ⟨_, upd_same, (SimK.put key l1 q3).mono st (Sub.refl _)⟩)
            · cases h
      | _ => simp [MP.putIx, hm] at h
  | _ => cases h
theorem lg_sub (hu : X.A.units + 1 < cLine) (ho : LE X W none o mo) (hi : LE X W none i mi)
    (ha : ∀ v, assign (.Subscript o i pos) X.env v = (do
      let ov ← holding [v] (eval o X.env)
      let iv ← holding [v, ov] (eval i X.env)
      standAt pos
      holding [v, ov, iv] (setItem ov iv v)
      release [v, ov, iv] []) := by intro _; rfl) : LG X W none (.Subscript o i pos) (MP.gSub mo mi) := by
  obtain ⟨t1, p1, g1⟩ := ho
  obtain ⟨t2, p2, g2⟩ := hi
  refine ⟨_, pg_sub p1 p2 (set_m hu) ha, fun rho z u fr mem σ H Q D S M q h => ?_⟩
  unfold MP.gSub at h
  rw [wp_ofRes] at h
  refine g1 rho fr mem σ H _ S M (Res.wp_mono h (fun x m1 h1 r1 v H1 s1 t1 q1 M1 => ?_) fun c m1 h1 => ex_exP h1 S (Sub.refl _) (Stay.refl _))
  rw [wp_ofRes] at h1
  refine g2 r1 fr m1 σ H1 _ (S.mono t1 s1) M1 (Res.wp_mono h1 (fun y m2 h2 r2 w H2 s2 t2 q2 M2 => ?_) fun c m2 h2 => ex_exP h2 (S.mono t1 s1) s1 t1)
  cases e : MP.putIx x y z m2 with
  | none => rw [e] at h2; exact h2.elim
  | some m3 =>
    rw [e] at h2
    exact put_ok (q1.mono t2 s2) q2 (q.mono (t1.trans t2) (s1.trans s2)) M2 e fun H3 t3 M3 => h2 r2 σ H3 (s1.trans s2) ((t1.trans t2).trans t3) (S.mono ((t1.trans t2).trans t3) (s1.trans s2)) M3

/-! ### assignments -/
theorem ls_asg {tg : Expr} (he : LE X W ex e me) (hg : LG X W ex tg g) (hs : swapsWithSole [tg] e pos.line X.env = pure false := by rfl) (hw : swappedStores [tg] e X.env = pure none := by rfl)
    (h1 : (assignEach [tg] X.env).map (·.2) = [assign tg X.env] := by rfl) : LS X W ex (.Assign [tg] e pos) (MP.sAsg me g) := by
  obtain ⟨t1, p1, g1⟩ := he
  obtain ⟨t2, p2, g2⟩ := hg
  refine ⟨_, ps_asg p1 p2 hs hw h1, fun rho fr mem σ H D S M h => ?_⟩
  unfold MP.sAsg at h
  rw [wp_ofRes] at h
  refine g1 rho fr mem σ H _ S M (Res.wp_mono h (fun x m1 h1 r1 v H1 s1 t1 q1 M1 => ?_) fun c m1 h1 => ex_exP h1 S (Sub.refl _) (Stay.refl _))
  exact g2 r1 x v fr m1 σ H1 D.nx D (S.mono t1 s1) M1 q1 (post.trans h1 s1 t1)
theorem GoodE.set {t : TE} (g1 : GoodE X W ex t me) (k : Nat) : GoodS X W ex (tAsg t (gName k)) (MP.sSet k me) := fun rho fr mem σ H D S M h => by
  unfold MP.sSet at h
  rw [wp_ofRes] at h
  refine g1 rho fr mem σ H _ S M (Res.wp_mono h (fun x m1 h1 r1 v H1 s1 t1 q1 M1 => ?_) fun c m1 h1 => ex_exP h1 S (Sub.refl _) (Stay.refl _))
  exact h1 r1 _ H1 s1 t1 ((S.mono t1 s1).set k q1) M1
theorem ls_set (nm : Nm X N G) (j : Nat) {k : Nat} {x : Str} {pos' : Pos} (he : LE X W ex e me) (hx : N[j]? = some (x, k, true) := by rfl) (hs : swapsWith e (some (.Name x pos')) pos.line X.env = pure false := by rfl) : LS X W ex (.Assign [.Name x pos'] e pos) (MP.sSet k me) := by
  obtain ⟨t1, p1, g1⟩ := he
  obtain ⟨h1, h2⟩ := nm.st j x k hx
  exact ⟨_, ps_set nm.nd (nm.n j x k true hx).1 h1 p1 hs h2, g1.set k⟩
theorem ls_par (nm : Nm X N G) (hc : X.calm = true) (j1 j2 : Nat) {k1 k2 : Nat} {x y : Str} {px py pt : Pos} {kt kk pt2} {b1 b2 : Bool} (hij : k1 ≠ k2) (ha : LA X W ex [a, b] (MP.aL [ma, mb])) (hx : X.env.scope.names.lookup x = some .local := by rfl) (hy : X.env.scope.names.lookup y = some .local := by rfl)
    (n1 : N[j1]? = some (x, k1, b1) := by rfl) (n2 : N[j2]? = some (y, k2, b2) := by rfl)
    (hw : swappedStores [.Tuple [.Name x px, .Name y py] kt pt] (.Tuple [a, b] kk pt2) X.env = pure (some [x, y]) := by rfl)
    (hs : swapsWithSole [.Tuple [.Name x px, .Name y py] kt pt] (.Tuple [a, b] kk pt2) pos.line X.env = pure false := by rfl) :
    LS X W ex (.Assign [.Tuple [.Name x px, .Name y py] kt pt] (.Tuple [a, b] kk pt2) pos) (MP.sPar k1 k2 ma mb) := by
  obtain ⟨t1, p1, g1⟩ := ha
  refine ⟨_, ps_par hc nm.nd (nm.n j1 x k1 b1 n1).1 (nm.n j2 y k2 b2 n2).1 hij hx hy p1 hw hs, fun rho fr mem σ H D S M h => ?_⟩
  refine g1 rho fr mem σ H _ S M ?_
  unfold MP.sPar at h
  rw [wp_ofRes] at h
  unfold MP.aL MP.aCons
  rw [Res.wp_bind]
  refine Res.wp_mono h (fun x m1 h1 => ?_) (fun c m1 h1 => ex_exP h1 S (Sub.refl _) (Stay.refl _))
  rw [wp_ofRes] at h1
  unfold MP.aL MP.aCons
  rw [Res.wp_bind, Res.wp_bind]
  refine Res.wp_mono h1 (fun y m2 h2 => ?_) (fun c m1 h1 => ex_exP h1 S (Sub.refl _) (Stay.refl _))
  intro r1 vs H1 s1 t1 l1 M1
  obtain ⟨v, vs', rfl, q1, l2⟩ := l1.inv_cons
  obtain ⟨w, vs', rfl, q2, l3⟩ := l2.inv_cons
  have e := l3.inv_nil
  subst e
  exact ⟨v, w, rfl, h2 r1 _ H1 s1 t1 (((S.mono t1 s1).set k1 q1).set k2 q2) M1⟩
theorem ls_par3 (nm : Nm X N G) (hc : X.calm = true) (j1 j2 j3 : Nat) {k1 k2 k3 : Nat} {x y z : Str} {px py pz pt : Pos} {kt kk pt2} {b1 b2 b3 : Bool} (hij : k1 ≠ k2) (hil : k1 ≠ k3) (hjl : k2 ≠ k3) (ha : LA X W ex [a, b, c] (MP.aL [ma, mb, mc])) (hx : X.env.scope.names.lookup x = some .local := by rfl) (hy : X.env.scope.names.lookup y = some .local := by rfl) (hz : X.env.scope.names.lookup z = some .local := by rfl)
    (n1 : N[j1]? = some (x, k1, b1) := by rfl) (n2 : N[j2]? = some (y, k2, b2) := by rfl) (n3 : N[j3]? = some (z, k3, b3) := by rfl)
    (hw : swappedStores [.Tuple [.Name x px, .Name y py, .Name z pz] kt pt] (.Tuple [a, b, c] kk pt2) X.env = pure (some [x, y, z]) := by rfl)
    (hs : swapsWithSole [.Tuple [.Name x px, .Name y py, .Name z pz] kt pt] (.Tuple [a, b, c] kk pt2) pos.line X.env = pure false := by rfl) :
    LS X W ex (.Assign [.Tuple [.Name x px, .Name y py, .Name z pz] kt pt] (.Tuple [a, b, c] kk pt2) pos) (MP.sPar3 k1 k2 k3 ma mb mc) := by
  obtain ⟨t1, p1, g1⟩ := ha
  refine ⟨_, ps_par3 hc nm.nd (nm.n j1 x k1 b1 n1).1 (nm.n j2 y k2 b2 n2).1 (nm.n j3 z k3 b3 n3).1 hij hil hjl hx hy hz p1 hw hs, fun rho fr mem σ H D S M h => ?_⟩
  refine g1 rho fr mem σ H _ S M ?_
  unfold MP.sPar3 at h
  rw [wp_ofRes] at h
  unfold MP.aL MP.aCons
  rw [Res.wp_bind]
  refine Res.wp_mono h (fun x m1 h1 => ?_) (fun c m1 h1 => ex_exP h1 S (Sub.refl _) (Stay.refl _))
  rw [wp_ofRes] at h1
  unfold MP.aL MP.aCons
  rw [Res.wp_bind, Res.wp_bind]
  refine Res.wp_mono h1 (fun y m2 h2 => ?_) (fun c m1 h1 => ex_exP h1 S (Sub.refl _) (Stay.refl _))
  rw [wp_ofRes] at h2
  unfold MP.aL MP.aCons
  rw [Res.wp_bind, Res.wp_bind]
  refine Res.wp_mono h2 (fun y m2 h2 => ?_) (fun c m1 h1 => ex_exP h1 S (Sub.refl _) (Stay.refl _))
  intro r1 vs H1 s1 t1 l1 M1
  obtain ⟨v, vs', rfl, q1, l2⟩ := l1.inv_cons
  obtain ⟨w, vs', rfl, q2, l3⟩ := l2.inv_cons
  obtain ⟨u, vs', rfl, q3, l4⟩ := l3.inv_cons
  have e := l4.inv_nil
  subst e
  exact ⟨v, w, u, rfl, h2 r1 _ H1 s1 t1 ((((S.mono t1 s1).set k1 q1).set k2 q2).set k3 q3) M1⟩
end
end ML

/-! MLinkI: the plain statements, raise, while, the promise of a def, calls. -/
namespace ML
open PySem PySem.Spec PyProof.Rows L2
open MP (MV MO Mem Fr ME MA MT MS MG MI MFn Res SR)
section
variable {X : Cx} {W : WX} {ex : ExH} {a b c e : Expr} {ma mb mc me : ME} {mt : MT} {pos : Pos} {N : List (Str × Nat × Bool)} {G : List Str} {g : MG} {s : Stmt} {ss : List Stmt} {m1 m2 : MS}
/-! ### plain statements -/
theorem lss_nil : LSs X W ex [] MP.sPass := ⟨_, pss_nil, fun rho fr mem σ H D S M h => h rho σ H (Sub.refl _) (Stay.refl _) S M⟩
theorem lss_one (h : LS X W ex s m1) : LSs X W ex [s] m1 := let ⟨_, p, g⟩ := h; ⟨_, pss_one p, g⟩
theorem lss_cons (h : LS X W ex s m1) (h2 : LSs X W ex ss m2) : LSs X W ex (s :: ss) (MP.sSeq m1 m2) := by
  obtain ⟨t1, p1, g1⟩ := h
  obtain ⟨t2, p2, g2⟩ := h2
  refine ⟨_, pss_cons p1 p2, fun rho fr mem σ H D S M h => ?_⟩
  unfold MP.sSeq at h
  rw [SR.wp_andThen] at h
  refine g1 rho fr mem σ H _ S M (SR.wp_mono h (fun fr1 m1 h1 r1 σ1 H1 s1 t1 S1 M1 => ?_) (fun _ _ h => h) (fun _ _ h => h) (fun _ _ h => h) (fun _ _ _ h => h))
  exact g2 r1 fr1 m1 σ1 H1 D S1 M1 (post.trans h1 s1 t1)
theorem ls_expr (he : LE X W ex e me) (hs : swapsWith e none pos.line X.env = pure false := by rfl) : LS X W ex (.Expr e pos) (MP.sExpr me) := by
  obtain ⟨t1, p1, g1⟩ := he
  refine ⟨_, ps_expr p1 hs, fun rho fr mem σ H D S M h => ?_⟩
  unfold MP.sExpr at h
  rw [wp_ofRes] at h
  exact g1 rho fr mem σ H _ S M (Res.wp_mono h (fun x m1 h1 r1 v H1 s1 t1 q1 M1 => h1 r1 σ H1 s1 t1 (S.mono t1 s1) M1) fun c m1 h1 => ex_exP h1 S (Sub.refl _) (Stay.refl _))
theorem ls_ret (he : LE X W ex e me) : LS X W ex (.Return (some e) pos) (MP.sRet me) := by
  obtain ⟨t1, p1, g1⟩ := he
  refine ⟨_, ps_ret p1, fun rho fr mem σ H D S M h => ?_⟩
  unfold MP.sRet at h
  rw [wp_ofRes] at h
  exact g1 rho fr mem σ H _ S M (Res.wp_mono h (fun x m1 h1 r1 v H1 s1 t1 q1 M1 => h1 r1 v H1 s1 t1 q1 M1) fun c m1 h1 => ex_exP h1 S (Sub.refl _) (Stay.refl _))
theorem ls_retN : LS X W ex (.Return none pos) MP.sRetN := ⟨_, ps_retN, fun rho fr mem σ H D S M h => h rho _ H (Sub.refl _) (Stay.refl _) SimV.non M⟩
theorem ls_pass : LS X W ex (.Pass pos) MP.sPass := ⟨_, ps_pass, fun rho fr mem σ H D S M h => h rho σ H (Sub.refl _) (Stay.refl _) S M⟩
theorem ls_break : LS X W ex (.Break pos) MP.sBreak := ⟨_, ps_break, fun rho fr mem σ H D S M h => h rho σ H (Sub.refl _) (Stay.refl _) S M⟩
theorem ls_cont : LS X W ex (.Continue pos) MP.sCont := ⟨_, ps_continue, fun rho fr mem σ H D S M h => h rho σ H (Sub.refl _) (Stay.refl _) S M⟩
theorem ls_if {p q : List Stmt} (hc : LT X W ex c mt) (h1 : LSs X W ex p m1) (h2 : LSs X W ex q m2) : LS X W ex (.If c p q pos) (MP.sIf mt m1 m2) := by
  obtain ⟨t0, p0, g0⟩ := hc
  obtain ⟨t1, p1, g1⟩ := h1
  obtain ⟨t2, p2, g2⟩ := h2
  refine ⟨_, ps_if p0 p1 p2, fun rho fr mem σ H D S M h => ?_⟩
  unfold MP.sIf at h
  rw [wp_ofRes] at h
  refine g0 rho fr mem σ H _ S M (Res.wp_mono h (fun k m1 h1 r1 H1 s1 t1 M1 => ?_) fun c m1 h1 => ex_exP h1 S (Sub.refl _) (Stay.refl _))
  cases k with
  | true => exact g1 r1 fr m1 σ H1 D (S.mono t1 s1) M1 (post.trans h1 s1 t1)
  | false => exact g2 r1 fr m1 σ H1 D (S.mono t1 s1) M1 (post.trans h1 s1 t1)
theorem ls_aug (nm : Nm X N G) (j : Nat) {k : Nat} {x : Str} {p : Pos} (he : LE X W ex e me) (hx : N[j]? = some (x, k, true) := by rfl) : LS X W ex (.AugAssign (.Name x p) .Add e pos) (MP.sAug k me) := by
  obtain ⟨t1, p1, g1⟩ := he
  obtain ⟨h1, h2⟩ := nm.st j x k hx
  refine ⟨_, ps_aug (ti := rI0 fun i j => .int (i + j)) nm.nd (nm.n j x k true hx).1 h1 p1 (fun pins s σ H x y v u Q I r1 r2 q => iop_add pins s σ H x y v u Q I r1 r2 q) h2, fun rho fr mem σ H D S M h => ?_⟩
  unfold MP.sAug at h
  cases e0 : fr[k]? with
  | none => rw [e0] at h; exact h.elim
  | some o =>
    cases o with
    | none => rw [e0] at h; exact h.elim
    | some x0 =>
      rw [e0] at h
      obtain ⟨v0, hv0, q0⟩ := S.at_ k x0 e0
      refine ⟨v0, hv0, ?_⟩
      simp only at h
      rw [wp_ofRes] at h
      refine g1 rho fr mem σ H _ S M (Res.wp_mono h (fun y m1 h1 r1 w H1 s1 t1 q1 M1 => ?_) fun c m1 h1 => ex_exP h1 S (Sub.refl _) (Stay.refl _))
      cases x0 <;> first | exact h1.elim | skip
      cases y <;> first | exact h1.elim | skip
      exact ⟨_, _, int_at q0, int_at q1, h1 r1 _ H1 s1 t1 ((S.mono t1 s1).set k (SimV.int _)) M1⟩

/-! ### raise -/
structure ExcFact (K : PySem.W.Frag) (mg : Str → Option Value) (C : Str) : Prop where
  ex : ∃ (Ca : Addr) (bmB : List Value) (B newId initId : String), ExcBaseFacts B newId initId bmB ∧ mg C = some (.ref Ca) ∧ PySem.W.excIn K Ca bmB newId = true ∧ PySem.W.keepIn K (.ref Ca) = true ∧ PySem.W.subIn K (.ref Ca) (.type "BaseException") = some true ∧ PySem.W.typeIn K (.ref Ca) = some (.type "type")
theorem ls_raise (nm : Nm X N G) (j : Nat) {C msg : Str} {k : Nat} {p p2 p3 : Pos} (hc : X.calm = true) (tk : Takes X W) (F : ExcFact X.K X.mg C) (hx : G[j]? = some C := by rfl) :
    LS X W ex (.Raise (some (.Call (.Name C p) [.Constant (.str msg) k p2] [] p3)) none pos) (MP.sRaise C) := by
  obtain ⟨Ca, bmB, B, newId, initId, F, h1, h2, h3, h4, h5⟩ := F.ex
  refine ⟨_, ps_raise hc tk (pmk_own F h2 h1 h3 (raises_own h4 h5) (nm.gl j C hx).1 (nm.gl j C hx).2.1), fun rho fr mem σ H D S M h => ?_⟩
  exact h rho Ca σ H (Sub.refl _) (Stay.refl _) h1 S M

/-! ### while -/
theorem ls_while {body : List Stmt} (hp : PassesOwn (model X.prog X.w) X.A X.env X.xe) (hc : LT X W ex c mt) (hb : LSs X W ex body m1) : LS X W ex (.While c body [] pos) (MP.sWhile mt m1) := by
  obtain ⟨t0, p0, g0⟩ := hc
  obtain ⟨t1, p1, g1⟩ := hb
  refine ⟨_, ps_while hp p0 p1, fun rho fr mem σ H D S M h => ?_⟩
  have hne : MP.sWhile mt m1 fr mem ≠ .bad := fun z => by rw [z] at h; exact h
  obtain ⟨n, hn⟩ := MP.sWhile_inv hne
  rw [← hn] at h
  refine ⟨fun n σ' H' => ∃ r1 fr' mem', Sub rho r1 ∧ Stay H H' ∧ SimS X.K ex r1 H' fr' σ' ∧ SimM X.K X.mg r1 H' mem' ∧ (MP.whileN mt m1 n fr' mem').wp (post X.K X.mg ex r1 H' D W), ⟨n, rho, fr, mem, Sub.refl _, Stay.refl _, S, M, h⟩, ?_⟩
  rintro n σ' H' ⟨r1, fr', mem', s1, t1, S1, M1, h1⟩
  cases n with
  | zero => exact h1.elim
  | succ n =>
    rw [MP.whileN_succ, wp_ofRes] at h1
    refine g0 r1 fr' mem' σ' H' _ S1 M1 (Res.wp_mono h1 (fun k m2 h2 r2 H2 s2 t2 M2 => ?_) fun c m2 h2 => ex_exP h2 S1 (Sub.refl _) (Stay.refl _))
    cases k with
    | false => exact h2 r2 σ' H2 s2 t2 (S1.mono t2 s2) M2
    | true =>
      rw [if_pos rfl]
      rw [if_pos rfl] at h2
      refine ⟨fun σ3 H3 => ∃ r3 fr3 mem3, Sub rho r3 ∧ Stay H H3 ∧ SimS X.K ex r3 H3 fr3 σ3 ∧ SimM X.K X.mg r3 H3 mem3 ∧ (MP.whileN mt m1 n fr3 mem3).wp (post X.K X.mg ex r3 H3 D W), fun σ3 H3 q => ⟨n, Nat.lt_succ_self n, q⟩, ?_⟩
      refine g1 r2 fr' m2 σ' H2 _ (S1.mono t2 s2) M2 ?_
      have S2 := s1.trans s2
      have T2 := t1.trans t2
      cases hb : m1 fr' m2 with
      | nx fr3 m3 => rw [hb] at h2; exact fun r3 σ3 H3 s3 t3 S3 M3 => ⟨r3, fr3, m3, S2.trans s3, T2.trans t3, S3, M3, post.trans h2 (s2.trans s3) (t2.trans t3)⟩
      | ct fr3 m3 => rw [hb] at h2; exact fun r3 σ3 H3 s3 t3 S3 M3 => ⟨r3, fr3, m3, S2.trans s3, T2.trans t3, S3, M3, post.trans h2 (s2.trans s3) (t2.trans t3)⟩
      | bk fr3 m3 => rw [hb] at h2; exact fun r3 σ3 H3 s3 t3 S3 M3 => h2 r3 σ3 H3 (s2.trans s3) (t2.trans t3) S3 M3
      | rt v m3 => rw [hb] at h2; exact fun r3 σ3 H3 s3 t3 S3 M3 => h2 r3 σ3 H3 (s2.trans s3) (t2.trans t3) S3 M3
      | exc c fr3 m3 => rw [hb] at h2; exact fun r3 C σ3 H3 s3 t3 e3 S3 M3 => h2 r3 C σ3 H3 (s2.trans s3) (t2.trans t3) e3 S3 M3
      | bad => rw [hb] at h2; exact h2
end

/-! ### what a def promises -/
/-- of any values and any memory: where the MP def ends well, so does it -/
def spM (K : PySem.W.Frag) (mg : Str → Option Value) (np : Nat) (f : MFn) : Sp := fun vs H Q E => vs.length = np ∧ ∃ (rho : Rho) (xs : List MV) (mem : Mem), SimL K none rho H xs vs ∧ SimM K mg rho H mem ∧ (f xs mem).wp (okP K mg none rho H Q) (fun c m => ∀ rho' C H', Sub rho rho' → Stay H H' → mg c = some (.ref C) → SimM K mg rho' H' m → E (.ref C) none H')
section
variable {X : Cx} {W : WX} {ex : ExH} {e : Expr} {es : List Expr} {ms : List ME} {pos p : Pos} {N : List (Str × Nat × Bool)} {G : List Str}
/-- the def's function, what it does -/
structure FnM (P : Program) (w : World) (K : PySem.W.Frag) (mg : Str → Option Value) (base : Heap) (k : Nat) (x : Str) (np : Nat) (f : MFn) : Prop where
  ex : ∃ (fa : Addr) (fd : FuncData) (ps : List Str), mg x = some (.ref fa) ∧ FnOk P w K mg base (L2.CX P w) k fa fd ps (spM K mg np f) ∧ PySem.W.keepIn K (.ref fa) = true ∧ Binds K fd ps []
theorem le_call (nm : Nm X N G) (j : Nat) {k np : Nat} {x : Str} {f : MFn} (F : FnM X.prog X.w X.K X.mg X.base k x np f) (hr : Room k X.A) (tk : Takes X W) (ha : LA X W none (e :: es) (MP.aL ms)) (hl : ms.length = np := by rfl) (hx : G[j]? = some x := by rfl)
    (he : starEach (e :: es) X.env = (false, eval e X.env) :: starEach es X.env := by rfl) (hpl : (backTo pos (starEach es X.env)).any (·.1) = false := by rfl) : LE X W none (.Call (.Name x p) (e :: es) [] pos) (MP.eCall f (MP.aL ms)) := by
  obtain ⟨fa, fd, ps, h1, h2, h3, h4⟩ := F.ex
  obtain ⟨t1, p1, g1⟩ := ha
  refine ⟨_, pe_callS h2 hr (nm.gl j x hx).1 h1 h3 h4 (passAt tk) p1 (nm.gl j x hx).2.1 he hpl, fun rho fr mem σ H Q S M h => ?_⟩
  unfold MP.eCall at h
  rw [Res.wp_bind] at h
  have hlen : ∀ xs m1, (MP.aL ms fr mem) = .ok xs m1 → xs.length = ms.length := by
    clear h hl g1 p1 M S
    induction ms generalizing mem with
    | nil => intro xs m1 e; cases e; rfl
    | cons a r ih =>
      intro xs m1 e
      unfold MP.aL MP.aCons at e
      cases e1 : a fr mem with
      | ok x m2 =>
        rw [e1] at e
        simp only [Res.bind_ok] at e
        cases e2 : MP.aL r fr m2 with
        | ok ys m3 =>
          rw [e2] at e
          simp only [Res.bind_ok] at e
          cases e
          rw [List.length_cons, List.length_cons, ih m2 _ _ e2]
        | exc c m3 => rw [e2] at e; cases e
        | bad => rw [e2] at e; cases e
      | exc c m2 => rw [e1] at e; cases e
      | bad => rw [e1] at e; cases e
  refine g1 rho fr mem σ H _ S M ?_
  cases e0 : MP.aL ms fr mem with
  | ok xs m1 =>
    rw [e0] at h
    have hlen' := hlen xs m1 e0
    intro r1 vs H1 s1 t1 l1 M1
    refine ⟨by rw [← l1.length, hlen', hl], r1, xs, m1, l1, M1, Res.wp_mono h (fun y m2 h2 => okP.trans h2 s1 t1) fun c m2 h2 => ?_⟩
    exact fun r2 C H2 s2 t2 e2 M2 => h2 r2 C H2 (s1.trans s2) (t1.trans t2) e2 M2
  | exc c m1 => rw [e0] at h; exact h
  | bad => rw [e0] at h; exact h
end
end ML

/-! MLinkJ: a def keeps its promise; the law's end. -/
namespace ML
open PySem PySem.Spec PyProof.Rows L2
open MP (MV MO Mem Fr ME MA MT MS MG MI MFn Res SR)
section
variable {P : Program} {w : World} {K : PySem.W.Frag} {mg : Str → Option Value} {base : Heap}
theorem sims_start {rho : Rho} {H : Hp} {xs : List MV} {vs : List V} (l : SimL K none rho H xs vs) (NN : List Str) (nl : Nat) (h : NN.length = vs.length + nl) : SimS K none rho H (xs.map some ++ List.replicate nl none) (L2.start NN vs) := by
  have hl := l.length
  unfold L2.start
  refine ⟨by simp; omega, fun i x e => ?_⟩
  by_cases hi : i < xs.length
  · rw [List.getElem?_append_left (by simpa using hi), List.getElem?_map] at e
    cases e1 : xs[i]? with
    | none => rw [e1] at e; simp at e
    | some y =>
      rw [e1] at e
      simp only [Option.map_some, Option.some.injEq] at e
      subst e
      obtain ⟨v, h1, h2⟩ := l.get e1
      exact ⟨v, by rw [List.getElem?_append_left (by simp; omega), List.getElem?_map, h1]; rfl, h2⟩
  · rw [List.getElem?_append_right (by simpa using hi)] at e
    rw [List.getElem?_replicate] at e
    split at e <;> cases e
theorem fn_ok {x qual : Str} {params : Arguments} {body : List Stmt} {scope : Scope} {f : Addr} {fd : FuncData} {dvs : List V} {N ps : List Str} {k np nl : Nat} {mb : MS} (F : FunD K x qual params body scope dvs [] f fd) (S : FnScope N ps scope) (hp : ps.length = np) (hn : N.length = np + nl)
    (hb : ∀ (cdv : Value) (A : Around) (outer : List Env) (s : Shared) (H : Hp) (E : XK), Room k (A.deeper (envOfC qual scope s.heap.objs.size f cdv)) → LSs (cxOf (L2.CX P w) P w K mg base N qual scope f cdv A outer s H E) (fun cls d _ H => E cls d H) none body mb) :
    FnOk P w K mg base (L2.CX P w) (k + 1) f fd ps (spM K mg np (MP.fnOf np nl mb)) := by
  refine F.ok S (fun vs H Q E h => by rw [h.1, hp]) (fun cdv A outer s H vs Q E hr h => ?_)
  obtain ⟨t, p1, g1⟩ := hb cdv A outer s H E hr
  obtain ⟨hl, rho, xs, mem, l, M, q⟩ := h
  refine ⟨t, p1, g1 rho (xs.map some ++ List.replicate nl none) mem _ H _ (sims_start l N nl (by rw [hn, hl])) M ?_⟩
  unfold MP.fnOf at q
  rw [if_pos (by rw [l.length, hl])] at q
  cases hm : mb (xs.map some ++ List.replicate nl none) mem with
  | nx fr m => rw [hm] at q; exact fun r1 σ H1 s1 t1 _ M1 => q r1 _ H1 s1 t1 SimV.non M1
  | rt v m => rw [hm] at q; exact fun r1 u H1 s1 t1 q1 M1 => q r1 u H1 s1 t1 q1 M1
  | bk fr m => rw [hm] at q; exact q.elim
  | ct fr m => rw [hm] at q; exact q.elim
  | exc c fr m => rw [hm] at q; exact fun r1 C σ H1 s1 t1 e1 _ M1 => q r1 C H1 s1 t1 e1 M1
  | bad => rw [hm] at q; exact q.elim
/-- within a def: what is raised leaves it -/
theorem tk_fn {N : List Str} {qual : Str} {scope : Scope} {f : Addr} {cdv : Value} {A : Around} {outer : List Env} {s : Shared} {H : Hp} {E : XK} : Takes (cxOf (L2.CX P w) P w K mg base N qual scope f cdv A outer s H E) (fun cls d _ H => E cls d H) :=
  takes_of rfl rfl rfl rfl
end
theorem sim_script {K : PySem.W.Frag} {mg : Str → Option Value} {H : Hp} {a : Addr} {ns : List Int} (h : SqL K H a (ns.map V.int)) :
    ∃ o, (o = MO.lst (ns.map MV.int) ∨ o = MO.rol (ns.map MV.int)) ∧ SimM K mg [a] H [o] := by
  have one : ∀ o : MO, SimO K mg [a] H a o → SimM K mg [a] H [o] := fun o q => by
    refine ⟨rfl, fun i j b x y h1 h2 h3 h4 _ _ => ?_, fun n x e => ?_⟩
    · have h5 := (List.getElem?_eq_some_iff.mp h1).1
      have h6 := (List.getElem?_eq_some_iff.mp h2).1
      simp at h5 h6
      omega
    · cases n with
      | zero => simp at e; subst e; exact ⟨a, rfl, q⟩
      | succ n => simp at e
  rcases h with (h | ⟨o, h⟩) | h
  · exact ⟨_, .inl rfl, one _ ⟨_, h, SimL.ints ns⟩⟩
  · exact ⟨_, .inr rfl, one _ ⟨_, .inl ⟨o, h⟩, SimL.ints ns⟩⟩
  · exact ⟨_, .inr rfl, one _ ⟨_, .inr h, SimL.ints ns⟩⟩
/-- what a law's function does at every script -/
def LawM (n : Nat) (f : MFn) : Prop := ∀ (ns : List Int) (o : MO), ns.length ≤ n → (∀ z ∈ ns, Builtin.Int.intBits z ≤ 1048576) → (o = MO.lst (ns.map MV.int) ∨ o = MO.rol (ns.map MV.int)) → (f [.ref 0] [o]).wp (fun v _ => v = .bl true) (fun _ _ => False)
theorem walk_m {l : PySem.W.OpenLaw} {n k : Nat} {q : Program} {loose : List Str} {XP : (Str → Option Value) → Heap → Prop} {YP : World → Heap → Prop} {d : DefRec} {x : Str} {f : MFn}
    (hn : l.most = some n) (hn2 : n ≤ sizeLine) (hdf : d.params.defaults = []) (hr : Room k callerA) (law : LawM n f)
    (F : ∀ (w : World) (mg : Str → Option Value) (fa : Addr) (h : Heap), YP w h → h.Ns mainGlobals mg → mg d.name = some (.ref fa) →
      ∃ (K : PySem.W.Frag) (fd : FuncData), K.In h ∧ (∀ (s : Shared) (u : Value), BindsTo s fd ⟨[u], []⟩ [(x, u)]) ∧
        ∀ base : Heap, K.In base → base.Ns mainGlobals mg → FnOk l.prog w K mg base (L2.CX l.prog w) k fa fd [x] (spM K mg 1 f))
    (hCX : ∀ (w : World) (H : Hp) (s : Shared) (e : Value) (s' : Shared), L2.CX l.prog w [] H s (fun _ _ _ => False) e s' → False) :
    PySem.W.WalkO q loose XP YP l.row.toRowW d [] (fun f vs => PySem.call f vs) := by
  refine Att.attach_callB hn hdf fun w s₀ s₁ mg mb fa o pm cd doc a vs ns G Y ho hd hcd hmg hobj hints hlen hbits hg => ?_
  obtain ⟨K, fd, KX, hb, hF⟩ := F w mg fa _ Y G.T.g hmg
  refine law_call KX G.T.g G.T.b G.T.builtins G.T.nolimit hg hobj hints (Nat.le_trans hlen hn2) hr hF hb (fun H hO hS => ?_) fun H e s' => hCX w H s₁ e s'
  obtain ⟨o, ho, M⟩ := sim_script (mg := mg) hS
  refine ⟨rfl, [a], [.ref 0], [o], SimL.cons (SimV.ref rfl) SimL.nil, M, Res.wp_mono (law ns o hlen hbits ho) (fun v m e => ?_) fun _ _ h => h.elim⟩
  subst e
  exact fun r1 v H1 _ _ q _ => bl_at q
end ML

/-! MLinkK: what is walked; for. -/
namespace ML
open PySem PySem.Spec PyProof.Rows L2
open MP (MV MO Mem Fr ME MA MT MS MG MI MFn Res SR)

/-! ### locks that are laid within and taken away at the end -/
def unl (X : Cx) (R : Hp → Prop) : Hp → Prop := fun H' => R H' ∨ ∃ d od u, H' d = some (.frz od u) ∧ (∀ o' u', X.H_0 d ≠ some (.frz o' u')) ∧ R (upd H' d u)
section
variable {X : Cx} {W : WX} {ex : ExH}
theorem unl_inv {pins : List (Addr × Obj)} {σ : L2.St} {H : Hp} {s : Shared} {R : Hp → Prop} (I : Inv X pins σ H s) (h : unl X R H) : ∃ H', Inv X pins σ H' s ∧ R H' := by
  rcases h with h | ⟨d, od, u, h1, h2, h3⟩
  · exact ⟨H, I, h⟩
  · exact ⟨_, I.unlock h1 h2, h3⟩
def unlD (X : Cx) (D : Ends) : Ends := { nx := fun σ => unl X (D.nx σ), rt := fun v => unl X (D.rt v), bk := fun σ => unl X (D.bk σ), ct := fun σ => unl X (D.ct σ) }
theorem ps_unl {st : Stmt} {t : TS} (h : PS X st t) : PS X st (fun D σ H => t (unlD X D) σ H) := ⟨fun pins s σ H D I hw => by
  refine thn (h.run pins s σ H _ I hw) fun f s1 q => ?_
  cases f with
  | next => obtain ⟨σ', H', I2, q⟩ := q; obtain ⟨H2, I3, q⟩ := unl_inv I2 q; exact ⟨σ', H2, I3, q⟩
  | brk => obtain ⟨σ', H', I2, q⟩ := q; obtain ⟨H2, I3, q⟩ := unl_inv I2 q; exact ⟨σ', H2, I3, q⟩
  | cont => obtain ⟨σ', H', I2, q⟩ := q; obtain ⟨H2, I3, q⟩ := unl_inv I2 q; exact ⟨σ', H2, I3, q⟩
  | ret v => obtain ⟨x, σ', H', I2, r, q⟩ := q; obtain ⟨H2, I3, q⟩ := unl_inv I2 q; exact ⟨x, σ', H2, I3, r, q⟩⟩
theorem pe_unl {e : Expr} {t : TE} (h : PE X e t) : PE X e (fun σ H Q => t σ H fun v => unl X (Q v)) := ⟨fun pins s σ H Q I hw => by
  refine thn (h.run pins s σ H _ I hw) fun v s1 ⟨x, H1, I1, r, q⟩ => ?_
  obtain ⟨H2, I2, q⟩ := unl_inv I1 q
  exact ⟨x, H2, I2, r, q⟩⟩
def unlW (X : Cx) (W : WX) : WX := fun cls d σ => unl X (W cls d σ)
theorem takes_unl (tk : Takes X W) : Takes X (unlW X W) := fun u s' x => by
  obtain ⟨a, B, sI, pins, σ, H, cls, d, h1, h2, h3, h4, h5, h6, h7, h8, h9⟩ := x
  rcases h9 with h9 | ⟨d', od, u', k1, k2, k3⟩
  · exact tk u s' ⟨a, B, sI, pins, σ, H, cls, d, h1, h2, h3, h4, h5, h6, h7, h8, h9⟩
  · refine tk u s' ⟨a, B, sI, pins, σ, _, cls, d, h1, h2.unlock k1 k2, h3, h4, h5, ?_, h7, h8, k3⟩
    rw [upd_ne (fun z => by rw [z, k1] at h6; cases h6)]
    exact h6
/-- the value's thing is locked, or it stays as it is -/
def tLk (X : Cx) (t : TE) : TE := fun σ H Q => t σ H fun x H1 => Q x H1 ∨ ∃ d u, x = .ref d ∧ H1 d = some u ∧ Mut (some u) ∧ ∀ od, (∀ o' u', X.H_0 d ≠ some (.frz o' u')) → Q x (upd H1 d (.frz od u))
theorem pe_lk {e : Expr} {t : TE} (h : PE X e t) : PE X e (tLk X t) := ⟨fun pins s σ H Q I hw => by
  refine thn (h.run pins s σ H _ I hw) fun v s1 ⟨x, H1, I1, r, q⟩ => ?_
  rcases q with q | ⟨d, u, ex, hd, mu, q⟩
  · exact ⟨x, H1, I1, r, q⟩
  · obtain ⟨od, I2⟩ := I1.lock hd mu
    exact ⟨x, _, I2, r, q od (I1.nofrz hd mu)⟩⟩
theorem PI.or {tg iter : Expr} {wi wi' : TI} (h : PI X tg iter wi) (h' : PI X tg iter wi') : PI X tg iter (fun σ H R => wi σ H R ∨ wi' σ H R) :=
  ⟨fun pins s σ H R I hw => hw.elim (h.run pins s σ H R I) (h'.run pins s σ H R I)⟩

/-! ### what is walked -/
structure WalkM (X : Cx) (ex : ExH) (rho : Rho) (H : Hp) (w : MP.Walk) (J : It) : Prop where
  go : ∃ (G : Hp → Prop) (Y : Nat → Hp → V → Hp → Prop), L2.Walk J w.items.length G Y ∧ ∀ (rho1 : Rho) (H1 : Hp) (m1 : Mem), Sub rho rho1 → Stay H H1 → SimM X.K X.mg rho1 H1 m1 → w.keep m1 →
    G H1 ∧ ∀ (i : Nat) (x : V) (H2 : Hp), i < w.items.length → Y i H1 x H2 → Stay H1 H2 ∧ (∀ m, SimM X.K X.mg rho1 H1 m → SimM X.K X.mg rho1 H2 m) ∧ ∃ mx, w.items[i]? = some mx ∧ SimV X.K ex rho1 H2 mx x
/-- behind the iterable: the walk, its memory; a lock just laid -/
def okI (X : Cx) (ex : ExH) (rho : Rho) (H : Hp) (R : It → Hp → Prop) : MP.Walk → Mem → Prop := fun w m => match w.lock with
  | none => ∀ rho' H', Sub rho rho' → Stay H H' → SimM X.K X.mg rho' H' m → ∀ J, WalkM X ex rho' H' w J → R J H'
  | some n => match m[n]? with
    | some (.dct true _) => ∀ rho' H', Sub rho rho' → Stay H H' → SimM X.K X.mg rho' H' m → ∀ J, WalkM X ex rho' H' w J → R J H'
    | some (.dct false kvs) => ∀ rho' H' d od vs, Sub rho rho' → Stay H H' → rho'[n]? = some d → SimM X.K X.mg rho' H' (m.set n (.dct true kvs)) → H' d = some (.frz od (.dK vs)) → (∀ o' u', X.H_0 d ≠ some (.frz o' u')) → (∀ o' u', H d ≠ some (.frz o' u')) → ∀ J, WalkM X ex rho' H' w J → R J H'
    | _ => False
def GoodI (X : Cx) (W : WX) (ex : ExH) (t : TI) (m : MI) : Prop := ∀ (rho : Rho) (fr : Fr) (mem : Mem) (σ : L2.St) (H : Hp) (R : It → Hp → Prop), SimS X.K ex rho H fr σ → SimM X.K X.mg rho H mem →
  (m fr mem).wp (okI X ex rho H R) (exP X.K X.mg rho H σ W) → t σ H R
def LI (X : Cx) (W : WX) (ex : ExH) (tg iter : Expr) (m : MI) : Prop := ∃ t, PI X tg iter t ∧ GoodI X W ex t m

/-! ### the walks -/
theorem walkm_list {rho : Rho} {H : Hp} {n : Nat} {a : Addr} {xs : List MV} (hr : rho[n]? = some a) : WalkM X ex rho H ⟨xs, fun m => m[n]? = some (.lst xs), none⟩ (Itl X.K a) := by
  refine ⟨fun H' => ∃ vs, SqL X.K H' a vs ∧ vs.length = xs.length, fun i H1 x H2 => H2 = H1 ∧ ∀ vs, SqL X.K H1 a vs → vs[i]? = some x, ⟨fun i H' hi q => ?_, fun H' q => ?_, fun i H' x H2 hi q y => y⟩, fun rho1 H1 m1 s t M k => ?_⟩
  · obtain ⟨vs, q1, q2⟩ := q
    exact ⟨vs, vs[i]'(by rw [q2]; exact hi), q1, by simp⟩
  · obtain ⟨vs, q1, q2⟩ := q
    exact ⟨vs, q1, Nat.le_of_eq q2⟩
  · obtain ⟨vs, h1, l1⟩ := M.get (s n a hr) k
    refine ⟨⟨vs, SqL.of h1, l1.length.symm⟩, fun i x H2 hi y => ?_⟩
    obtain ⟨rfl, y⟩ := y
    refine ⟨Stay.refl _, fun _ h => h, xs[i], by simp [hi], ?_⟩
    obtain ⟨v, e1, q⟩ := l1.get (i := i) (x := xs[i]) (by simp [hi])
    rw [y vs (SqL.of h1)] at e1; cases e1
    exact q.ex0 ex
theorem walkm_rol {rho : Rho} {H : Hp} {n : Nat} {a : Addr} {xs : List MV} (hr : rho[n]? = some a) : WalkM X ex rho H ⟨xs, fun m => m[n]? = some (.rol xs), none⟩ (Itl X.K a) := by
  refine ⟨fun H' => ∃ vs, SqL X.K H' a vs ∧ vs.length = xs.length, fun i H1 x H2 => H2 = H1 ∧ ∀ vs, SqL X.K H1 a vs → vs[i]? = some x, ⟨fun i H' hi q => ?_, fun H' q => ?_, fun i H' x H2 hi q y => y⟩, fun rho1 H1 m1 s t M k => ?_⟩
  · obtain ⟨vs, q1, q2⟩ := q
    exact ⟨vs, vs[i]'(by rw [q2]; exact hi), q1, by simp⟩
  · obtain ⟨vs, q1, q2⟩ := q
    exact ⟨vs, q1, Nat.le_of_eq q2⟩
  · obtain ⟨vs, h1, l1⟩ := M.get (s n a hr) k
    have h1' : SqL X.K H1 a vs := by
      rcases h1 with ⟨o, h1⟩ | h1
      · exact .inl (.inr ⟨o, h1⟩)
      · exact .inr h1
    refine ⟨⟨vs, h1', l1.length.symm⟩, fun i x H2 hi y => ?_⟩
    obtain ⟨rfl, y⟩ := y
    refine ⟨Stay.refl _, fun _ h => h, xs[i], by simp [hi], ?_⟩
    obtain ⟨v, e1, q⟩ := l1.get (i := i) (x := xs[i]) (by simp [hi])
    rw [y vs h1'] at e1; cases e1
    exact q.ex0 ex
theorem walkm_tup {rho : Rho} {H : Hp} {a : Addr} {xs : List MV} {vs : List V} (hs : SqT X.K H a vs) (l : SimL X.K ex rho H xs vs) : WalkM X ex rho H ⟨xs, fun _ => True, none⟩ (Itt X.K a) := by
  refine ⟨fun H' => SqT X.K H' a vs, fun i H1 x H2 => H2 = H1 ∧ vs[i]? = some x, ⟨fun i H' hi q => ?_, fun H' q => ?_, fun i H' x H2 hi q y => ⟨y.1, y.2 vs q⟩⟩, fun rho1 H1 m1 s t M k => ?_⟩
  · exact ⟨vs, vs[i]'(by rw [← l.length]; exact hi), q, by simp⟩
  · exact ⟨vs, q, by rw [← l.length]; exact Nat.le_refl _⟩
  · refine ⟨t.seq hs, fun i x H2 hi y => ?_⟩
    obtain ⟨rfl, y⟩ := y
    refine ⟨Stay.refl _, fun _ h => h, xs[i], by simp [hi], ?_⟩
    obtain ⟨v, e1, q⟩ := (l.mono t s).get (i := i) (x := xs[i]) (by simp [hi])
    rw [y] at e1; cases e1
    exact q
theorem signs_get {z : Str} {i : Nat} (h : i < z.cps.size) : (MP.signs z)[i]? = some (MP.chr z.cps[i]) := by
  unfold MP.signs
  rw [List.getElem?_map]
  simp [h]
theorem walkm_str {rho : Rho} {H : Hp} (z : Str) : WalkM X ex rho H ⟨MP.signs z, fun _ => True, none⟩ (Its z) := by
  have e : (MP.signs z).length = z.cps.size := by unfold MP.signs; simp
  refine ⟨fun _ => True, _, by rw [show (⟨MP.signs z, fun _ => True, none⟩ : MP.Walk).items.length = z.cps.size from e]; exact walk_str, fun rho1 H1 m1 s t M k => ⟨trivial, fun i x H2 hi y => ?_⟩⟩
  obtain ⟨rfl, c, e1, rfl⟩ := y
  have hi' : i < z.cps.size := (Array.getElem?_eq_some_iff.mp e1).1
  refine ⟨Stay.refl _, fun _ h => h, _, signs_get hi', ?_⟩
  have : z.cps[i] = c := (Array.getElem?_eq_some_iff.mp e1).2
  rw [this]
  exact SimV.str _
theorem walkm_range {rho : Rho} {H : Hp} (lo : Int) (n : Nat) : WalkM X ex rho H ⟨MP.rangeL lo n, fun _ => True, none⟩ (Itr lo n) := by
  have e : (MP.rangeL lo n).length = n := by unfold MP.rangeL; simp
  refine ⟨fun _ => True, _, by rw [show (⟨MP.rangeL lo n, fun _ => True, none⟩ : MP.Walk).items.length = n from e]; exact walk_range, fun rho1 H1 m1 s t M k => ⟨trivial, fun i x H2 hi y => ?_⟩⟩
  obtain ⟨rfl, rfl⟩ := y
  have hi' : i < n := by rw [← e]; exact hi
  refine ⟨Stay.refl _, fun _ h => h, .int (lo + (i : Int)), ?_, SimV.int _⟩
  unfold MP.rangeL
  simp [hi']
theorem simp_get {α : Type} {K : PySem.W.Frag} {rho : Rho} {H : Hp} : ∀ {xs : List (α × MV)} {vs : List (α × V)} {i : Nat} {k : α} {v : V}, SimP K ex rho H xs vs → vs[i]? = some (k, v) → ∃ x, xs[i]? = some (k, x) ∧ SimV K ex rho H x v
  | _, _, i, k, v, .nil, h => by simp at h
  | p :: ps, q :: qs, i, k, v, .cons r t, h => by
    cases i with
    | zero =>
      simp at h
      subst h
      obtain ⟨p1, p2⟩ := p
      have e : p1 = k := r.1
      subst e
      exact ⟨p2, rfl, r.2⟩
    | succ i =>
      obtain ⟨x, e1, e2⟩ := simp_get t (by simpa using h)
      exact ⟨x, by simpa using e1, e2⟩
section
variable {rho : Rho} {H : Hp} {n : Nat} {d : Addr} {od : Obj} {kvs : List (Key × MV)} {vs : List (Key × V)}
theorem walkm_keys (hr : rho[n]? = some d) (hd : H d = some (.frz od (.dK vs))) (l : SimP X.K ex rho H kvs vs) : WalkM X ex rho H ⟨kvs.map fun kv => MP.ofKey kv.1, fun m => m[n]? = some (.dct true kvs), some n⟩ (Itk d od vs) := by
  have e : (kvs.map fun kv => MP.ofKey kv.1).length = vs.length := by rw [List.length_map]; exact Paired.length l
  refine ⟨_, _, by rw [show (⟨kvs.map fun kv => MP.ofKey kv.1, fun m => m[n]? = some (.dct true kvs), some n⟩ : MP.Walk).items.length = vs.length from e]; exact walk_keys, fun rho1 H1 m1 s t M k => ⟨t.frz _ _ _ hd, fun i x H2 hi y => ?_⟩⟩
  obtain ⟨rfl, c, v, e1, rfl⟩ := y
  obtain ⟨mx, e2, _⟩ := simp_get l e1
  exact ⟨Stay.refl _, fun _ h => h, MP.ofKey c, by simp [e2], SimV.key c⟩
theorem walkm_vals (hr : rho[n]? = some d) (hd : H d = some (.frz od (.dK vs))) (l : SimP X.K ex rho H kvs vs) : WalkM X ex rho H ⟨kvs.map fun kv => kv.2, fun m => m[n]? = some (.dct true kvs), some n⟩ (Itd d od vs) := by
  have e : (kvs.map fun kv => kv.2).length = vs.length := by rw [List.length_map]; exact Paired.length l
  refine ⟨fun H => H d = some (.frz od (.dK vs)), fun i H1 x H2 => H2 = H1 ∧ ∃ k, vs[i]? = some (k, x), ⟨fun i H' hi q => ⟨q, by rw [← e]; exact hi⟩, fun H' q => ⟨q, Nat.le_of_eq e.symm⟩, fun i H' x H2 hi q y => y⟩, fun rho1 H1 m1 s t M k => ⟨t.frz _ _ _ hd, fun i x H2 hi y => ?_⟩⟩
  obtain ⟨rfl, c, e1⟩ := y
  obtain ⟨mx, e2, q⟩ := simp_get l e1
  exact ⟨Stay.refl _, fun _ h => h, mx, by simp [e2], q.mono t s⟩
theorem walkm_items (hr : rho[n]? = some d) (hd : H d = some (.frz od (.dK vs))) (l : SimP X.K ex rho H kvs vs) : WalkM X ex rho H ⟨kvs.map fun kv => .tup [MP.ofKey kv.1, kv.2], fun m => m[n]? = some (.dct true kvs), some n⟩ (Iti d od vs) := by
  have e : (kvs.map fun kv => MV.tup [MP.ofKey kv.1, kv.2]).length = vs.length := by rw [List.length_map]; exact Paired.length l
  refine ⟨_, _, by rw [show (⟨kvs.map fun kv => .tup [MP.ofKey kv.1, kv.2], fun m => m[n]? = some (.dct true kvs), some n⟩ : MP.Walk).items.length = vs.length from e]; exact walk_items, fun rho1 H1 m1 s t M k => ⟨t.frz _ _ _ hd, fun i x H2 hi y => ?_⟩⟩
  obtain ⟨T, v1, v2, rfl, hT, rfl, e1, e2⟩ := y
  replace e1 : vs[i]?.map (fun kv => kV kv.1) = some v1 := e1
  replace e2 : vs[i]?.map Prod.snd = some v2 := e2
  cases hv : vs[i]? with
  | none => rw [hv] at e1; cases e1
  | some p =>
    obtain ⟨c, v⟩ := p
    rw [hv] at e1 e2
    simp only [Option.map_some, Option.some.injEq] at e1 e2
    subst e1 e2
    obtain ⟨mx, e3, q⟩ := simp_get l hv
    have st := Stay.new (o := .tup [kV c, v]) hT
    refine ⟨st, fun m hm => hm.fresh hT, .tup [MP.ofKey c, mx], by simp [e3], ?_⟩
    unfold SimV
    exact ⟨T, _, rfl, SqT.of upd_same, no_pairs_key, SimL.cons (SimV.key c) (SimL.cons (q.mono (t.trans st) s) SimL.nil)⟩
end

/-! ### iterables -/
variable {a b e tg : Expr} {ma mb me : ME} {pos p : Pos} {N : List (Str × Nat × Bool)} {G : List Str}
theorem okI.trans {rho r1 : Rho} {H H1 : Hp} {R : It → Hp → Prop} {w : MP.Walk} {m : Mem} (h : okI X ex rho H R w m) (hr : Sub rho r1) (hs : Stay H H1) : okI X ex r1 H1 R w m := by
  unfold okI at h ⊢
  split
  · rename_i hl
    rw [hl] at h
    exact fun r2 H2 a b => h r2 H2 (hr.trans a) (hs.trans b)
  · rename_i n hl
    rw [hl] at h
    simp only at h
    split
    · rename_i hm
      rw [hm] at h
      exact fun r2 H2 a b => h r2 H2 (hr.trans a) (hs.trans b)
    · rename_i hm
      rw [hm] at h
      exact fun r2 H2 d od vs a b k1 k2 k3 k4 k5 => h r2 H2 d od vs (hr.trans a) (hs.trans b) k1 k2 k3 k4 (fun o u z => k5 o u (hs.frz _ _ _ z))
    · rename_i h1 h2
      split at h
      · rename_i hm; exact (h1 _ hm).elim
      · rename_i hm; exact (h2 _ hm).elim
      · exact h
/-- a dict that is walked: its thing is locked now, or was -/
theorem dict_walk {rho r1 : Rho} {H H1 : Hp} {n : Nat} {v : V} {m1 : Mem} {R : It → Hp → Prop} {items : List (Key × MV) → List MV} {J : Addr → Obj → List (Key × V) → It} {kvs : List (Key × MV)} {lk : Bool}
    (hJ : ∀ (rho : Rho) (H : Hp) (d : Addr) (od : Obj) (kvs : List (Key × MV)) (vs : List (Key × V)), rho[n]? = some d → H d = some (.frz od (.dK vs)) → SimP X.K ex rho H kvs vs → WalkM X ex rho H ⟨items kvs, fun m => m[n]? = some (.dct true kvs), some n⟩ (J d od vs))
    (h : okI X ex rho H R ⟨items kvs, fun m => m[n]? = some (.dct true kvs), some n⟩ m1) (s1 : Sub rho r1) (t1 : Stay H H1) (q1 : SimV X.K ex r1 H1 (.ref n) v) (M1 : SimM X.K X.mg r1 H1 m1) (hm : m1[n]? = some (.dct lk kvs)) :
    (∃ d o vs, v = .ref d ∧ H1 d = some (.frz o (.dK vs)) ∧ R (J d o vs) H1) ∨ ∃ d u, v = .ref d ∧ H1 d = some u ∧ Mut (some u) ∧ ∀ od, (∀ o' u', X.H_0 d ≠ some (.frz o' u')) → ∃ d' o vs, v = .ref d' ∧ (upd H1 d (.frz od u)) d' = some (.frz o (.dK vs)) ∧ R (J d' o vs) (upd H1 d (.frz od u)) := by
  obtain ⟨d, hr, e⟩ := ref_at q1
  unfold okI at h
  simp only [hm] at h
  cases lk with
  | true =>
    obtain ⟨o, vs, h1, l1⟩ := M1.get hr hm
    exact .inl ⟨d, o, vs, e, h1, h r1 H1 s1 t1 M1 _ (hJ r1 H1 d o kvs vs hr h1 (l1.ex0 ex))⟩
  | false =>
    obtain ⟨vs, h1, l1⟩ := M1.get hr hm
    refine .inr ⟨d, _, e, h1, trivial, fun od hn => ⟨d, od, vs, e, upd_same, ?_⟩⟩
    obtain ⟨t2, M2⟩ := M1.lock (o := od) hr hm h1
    exact h r1 _ d od vs s1 (t1.trans t2) hr M2 upd_same hn (fun o u z => by have := t1.frz _ _ _ z; rw [h1] at this; cases this) _ (hJ r1 _ d od kvs vs hr upd_same ((l1.ex0 ex).mono t2 (Sub.refl _)))
theorem li_seq (ha : LE X W ex a ma) : LI X W ex tg a (MP.iSeq ma) := by
  obtain ⟨t1, p1, g1⟩ := ha
  refine ⟨_, PI.or (pi_list p1) (PI.or (pi_tup p1) (PI.or (pi_str p1) (pi_keys (pe_lk p1)))), fun rho fr mem σ H R S M h => ?_⟩
  unfold MP.iSeq at h
  rw [Res.wp_bind] at h
  cases e0 : ma fr mem with
  | bad => rw [e0] at h; exact h.elim
  | exc c m1 => 
    rw [e0] at h
    exact .inl (g1 rho fr mem σ H _ S M (by rw [e0]; exact h))
  | ok x m1 =>
    rw [e0] at h
    simp only [Res.wp_ok] at h
    have go : ∀ Q : V → Hp → Prop, okP X.K X.mg ex rho H Q x m1 → t1 σ H Q := fun Q hq => g1 rho fr mem σ H Q S M (by rw [e0]; exact hq)
    cases x with
    | tup xs =>
      refine .inr (.inl (go _ fun r1 v H1 s1 t1 q1 M1 => ?_))
      obtain ⟨d, vs, e, s2, l1⟩ := tup_at q1
      exact ⟨d, e, ⟨vs, s2⟩, h r1 H1 s1 t1 M1 _ (walkm_tup s2 l1)⟩
    | str z =>
      refine .inr (.inr (.inl (go _ fun r1 v H1 s1 t1 q1 M1 => ?_)))
      exact ⟨z, str_at q1, h r1 H1 s1 t1 M1 _ (walkm_str z)⟩
    | ref n =>
      simp only at h
      cases hm : m1[n]? with
      | none => simp [hm] at h
      | some o => cases o with
        | lst xs =>
          simp only [hm, Res.wp_ok] at h
          refine .inl (go _ fun r1 v H1 s1 t1 q1 M1 => ?_)
          obtain ⟨d, vs, e, hr, s2, l1⟩ := lst_at M1 q1 hm
          exact ⟨d, e, ⟨vs, SqL.of s2⟩, h r1 H1 s1 t1 M1 _ (walkm_list hr)⟩
        | rol xs =>
          simp only [hm, Res.wp_ok] at h
          refine .inl (go _ fun r1 v H1 s1 t1 q1 M1 => ?_)
          obtain ⟨d, vs, e, hr, s2, l1⟩ := rol_at M1 q1 hm
          exact ⟨d, e, ⟨vs, s2⟩, h r1 H1 s1 t1 M1 _ (walkm_rol hr)⟩
        | dct lk kvs =>
          simp only [hm, Res.wp_ok] at h
          refine .inr (.inr (.inr (go _ fun r1 v H1 s1 t1 q1 M1 => ?_)))
          rcases dict_walk (items := fun kvs => kvs.map fun kv => MP.ofKey kv.1) (J := Itk) (fun _ _ _ _ _ _ a b c => walkm_keys a b c) h s1 t1 q1 M1 hm with ⟨d, o, vs, e1, e2, q⟩ | ⟨d, u, e1, e2, mu, q⟩
          · exact .inl ⟨d, o, e1, .inl ⟨vs, e2, q⟩⟩
          · exact .inr ⟨d, u, e1, e2, mu, fun od hn => let ⟨d', o, vs, f1, f2, f3⟩ := q od hn; ⟨d', o, f1, .inl ⟨vs, f2, f3⟩⟩⟩
        | ins C fs => simp [hm] at h
    | _ => exact h.elim
theorem li_dict {it : MI} {items : List (Key × MV) → List MV} {J : Addr → Obj → List (Key × V) → It} {iter : Expr} (hit : it = fun fr m => (ma fr m).bind fun x m1 => match x with
    | .ref n => match m1[n]? with
      | some (.dct _ kvs) => .ok ⟨items kvs, fun m => m[n]? = some (.dct true kvs), some n⟩ m1
      | _ => .bad
    | _ => .bad) (hJ : ∀ (n : Nat) (rho : Rho) (H : Hp) (d : Addr) (od : Obj) (kvs : List (Key × MV)) (vs : List (Key × V)), rho[n]? = some d → H d = some (.frz od (.dK vs)) → SimP X.K ex rho H kvs vs → WalkM X ex rho H ⟨items kvs, fun m => m[n]? = some (.dct true kvs), some n⟩ (J d od vs))
    (hp : ∀ t, PE X a t → PI X tg iter (fun σ H R => t σ H fun x H1 => ∃ d o kvs, x = .ref d ∧ H1 d = some (.frz o (.dK kvs)) ∧ R (J d o kvs) H1)) (ha : LE X W ex a ma) : LI X W ex tg iter it := by
  obtain ⟨t1, p1, g1⟩ := ha
  refine ⟨_, hp _ (pe_lk p1), fun rho fr mem σ H R S M h => ?_⟩
  rw [hit] at h
  rw [Res.wp_bind] at h
  refine g1 rho fr mem σ H _ S M (Res.wp_mono h (fun x m1 h1 r1 v H1 s1 t1 q1 M1 => ?_) fun c m1 h1 => h1)
  cases x with
  | ref n =>
    simp only at h1
    cases hm : m1[n]? with
    | none => simp [hm] at h1
    | some o => cases o with
      | dct lk kvs =>
        simp only [hm, Res.wp_ok] at h1
        exact dict_walk (hJ n) h1 s1 t1 q1 M1 hm
      | _ => simp [hm] at h1
  | _ => exact h1.elim
theorem li_items {elts : List Expr} {kk : Nat} {tpos apos cpos : Pos} (ha : LE X W ex a ma) (hbase : attributeBase a "items" X.env (eval a X.env) = eval a X.env := by rfl) (hline : (apos.endLine == cpos.line) = true := by rfl) :
    LI X W ex (.Tuple elts kk tpos) (.Call (.Attribute a "items" apos) [] [] cpos) (MP.iItems ma) :=
  li_dict (items := fun kvs => kvs.map fun kv => .tup [MP.ofKey kv.1, kv.2]) (J := Iti) rfl (fun _ _ _ _ _ _ _ a b c => walkm_items a b c) (fun t p => pi_items p hbase hline) ha
theorem li_vals {apos cpos : Pos} (ha : LE X W ex a ma) (hbase : attributeBase a "values" X.env (eval a X.env) = eval a X.env := by rfl) (hline : (apos.endLine == cpos.line) = true := by rfl) :
    LI X W ex tg (.Call (.Attribute a "values" apos) [] [] cpos) (MP.iVals ma) :=
  li_dict (items := fun kvs => kvs.map fun kv => kv.2) (J := Itd) rfl (fun _ _ _ _ _ _ _ a b c => walkm_vals a b c) (fun t p => pi_values p hbase hline) ha
theorem li_keys {apos cpos : Pos} (ha : LE X W ex a ma) (hbase : attributeBase a "keys" X.env (eval a X.env) = eval a X.env := by rfl) (hline : (apos.endLine == cpos.line) = true := by rfl) :
    LI X W ex tg (.Call (.Attribute a "keys" apos) [] [] cpos) (MP.iKeys ma) :=
  li_dict (items := fun kvs => kvs.map fun kv => MP.ofKey kv.1) (J := Itk) rfl (fun _ _ _ _ _ _ _ a b c => walkm_keys a b c) (fun t p => pi_keysM p hbase hline) ha
theorem GoodE.la1 {t : TE} (g : GoodE X W ex t ma) : GoodA X W ex (tCons t tNil) (MP.aL [ma]) := fun rho fr mem σ H Q S M h => by
  unfold MP.aL MP.aCons MP.aL MP.aNil at h
  rw [Res.wp_bind] at h
  refine g rho fr mem σ H _ S M (Res.wp_mono h (fun x m1 h1 r1 v H1 s1 t1 q1 M1 => ?_) fun c m1 h1 => h1)
  exact h1 r1 _ H1 s1 t1 (SimL.cons q1 SimL.nil) M1
theorem li_range1 (nm : Nm X N G) (j : Nat) (hm : X.mg "range" = none) (ha : LE X W ex a ma) (hx : G[j]? = some "range" := by rfl) (hs : starEach [a] X.env = [(false, eval a X.env)] := by rfl) : LI X W ex tg (.Call (.Name "range" p) [a] [] pos) (MP.iRange1 ma) := by
  obtain ⟨t1, p1, g1⟩ := ha
  refine ⟨_, pi_range1 (nm.gl j _ hx).1 hm (pa_cons p1 pa_nil (by rw [hs]; rfl)) hs, fun rho fr mem σ H R S M h => ?_⟩
  unfold MP.iRange1 at h
  rw [Res.wp_bind] at h
  refine g1 rho fr mem σ H _ S M (Res.wp_mono h (fun x m1 h1 r1 v H1 s1 t1 q1 M1 => ?_) fun c m1 h1 => h1)
  cases x with
  | int i =>
    simp only at h1
    split at h1
    · rename_i hc
      exact ⟨i, by rw [int_at q1], by omega, by omega, h1 r1 H1 s1 t1 M1 _ (walkm_range 0 i.toNat)⟩
    · exact h1.elim
  | _ => exact h1.elim
theorem li_range2 (nm : Nm X N G) (j : Nat) (hm : X.mg "range" = none) (ha : LE X W ex a ma) (hb : LE X W ex b mb) (hx : G[j]? = some "range" := by rfl) (hs : starEach [a, b] X.env = [(false, eval a X.env), (false, eval b X.env)] := by rfl) (hs2 : starEach [b] X.env = [(false, eval b X.env)] := by rfl) :
    LI X W ex tg (.Call (.Name "range" p) [a, b] [] pos) (MP.iRange2 ma mb) := by
  obtain ⟨t1, p1, g1⟩ := ha
  obtain ⟨t2, p2, g2⟩ := hb
  refine ⟨_, pi_range2 (nm.gl j _ hx).1 hm (pa_cons p1 (pa_cons p2 pa_nil (by rw [hs2]; rfl)) (by rw [hs, hs2])) hs hs2, fun rho fr mem σ H R S M h => ?_⟩
  unfold MP.iRange2 at h
  rw [Res.wp_bind] at h
  refine g1 rho fr mem σ H _ S M (Res.wp_mono h (fun x m1 h1 r1 v H1 s1 t1 q1 M1 => ?_) fun c m1 h1 => h1)
  rw [Res.wp_bind] at h1
  refine g2 r1 fr m1 σ H1 _ (S.mono t1 s1) M1 (Res.wp_mono h1 (fun y m2 h2 r2 w H2 s2 t2 q2 M2 => ?_) fun c m2 h2 => exP.trans h2 s1 t1)
  cases x <;> first | exact h2.elim | skip
  cases y <;> first | exact h2.elim | skip
  rename_i i j
  simp only at h2
  split at h2
  · rename_i hc
    exact ⟨i, j, by rw [int_at q1, int_at q2], by omega, h2 r2 H2 (s1.trans s2) (t1.trans t2) M2 _ (walkm_range i (j - i).toNat)⟩
  · exact h2.elim

/-! ### for -/
theorem takes_same (tk : Takes X (unlW X W)) : Takes X (unlW X W) := tk
/-- what is wanted at the ends of a loop whose dict is locked -/
theorem for_run {g : MG} {mb : MS} {gt : TG} {tb : TS} {J : It} {w : MP.Walk} {rho : Rho} {H : Hp} {D : Ends} {W' : WX} (gg : GoodG X W' ex gt g) (gb : GoodS X W' ex tb mb) (wk : WalkM X ex rho H w J)
    {fr : Fr} {mem : Mem} {σ : L2.St} (S : SimS X.K ex rho H fr σ) (M : SimM X.K X.mg rho H mem) (h : (MP.forL w.keep g mb w.items fr mem).wp (post X.K X.mg ex rho H D W')) :
    ∃ Wf : Nat → Nat → L2.St → Hp → Prop, (∃ m, Wf 0 m σ H) ∧ ∀ i m σ H, Wf i m σ H →
      (J.stop i H ∧ D.nx σ H) ∨ (J.go i H ∧ ∃ N : L2.St → Hp → Prop, (∀ σ' H', N σ' H' → ∃ m', m' < m ∧ Wf (i + 1) m' σ' H') ∧ ∀ x H', J.yld i H x H' → gt x σ H' fun σ2 H2 => tb { D with nx := N, ct := N, bk := D.nx } σ2 H2) := by
  obtain ⟨Gd, Y, wj, hw⟩ := wk.go
  refine for_it wj (fun i σ' H' => ∃ r1 fr' mem', Sub rho r1 ∧ Stay H H' ∧ SimS X.K ex r1 H' fr' σ' ∧ SimM X.K X.mg r1 H' mem' ∧ (MP.forL w.keep g mb (w.items.drop i) fr' mem').wp (post X.K X.mg ex r1 H' D W')) ⟨rho, fr, mem, Sub.refl _, Stay.refl _, S, M, h⟩ (fun i σ' H' hi q => ?_) (fun i x σ' H1 H2 hi q y => ?_) (fun σ' H' q => ?_)
  · obtain ⟨r1, fr', mem', s1, t1, S1, M1, h1⟩ := q
    have hk : w.keep mem' := by
      cases hd : w.items.drop i with
      | nil =>
        rw [hd] at h1
        unfold MP.forL at h1
        split at h1
        · assumption
        · exact h1.elim
      | cons v vs =>
        rw [hd] at h1
        unfold MP.forL at h1
        split at h1
        · assumption
        · exact h1.elim
    exact (hw r1 H' mem' s1 t1 M1 hk).1
  · obtain ⟨r1, fr', mem', s1, t1, S1, M1, h1⟩ := q
    have hd : w.items.drop i = w.items[i] :: w.items.drop (i + 1) := List.drop_eq_getElem_cons hi
    rw [hd] at h1
    unfold MP.forL at h1
    split at h1
    · rename_i hk
      obtain ⟨st, hm, mx, e1, q1⟩ := (hw r1 H1 mem' s1 t1 M1 hk).2 i x H2 hi y
      have e2 : w.items[i] = mx := by
        rw [List.getElem?_eq_getElem hi] at e1
        exact Option.some.inj e1
      rw [e2] at h1
      have S2 := S1.mono st (Sub.refl _)
      have M2 := hm mem' M1
      have T2 := t1.trans st
      refine gg r1 mx x fr' mem' σ' H2 _ { D with bk := D.nx, ct := fun σ' H' => ∃ r1 fr' mem', Sub rho r1 ∧ Stay H H' ∧ SimS X.K ex r1 H' fr' σ' ∧ SimM X.K X.mg r1 H' mem' ∧ (MP.forL w.keep g mb (w.items.drop (i + 1)) fr' mem').wp (post X.K X.mg ex r1 H' D W') } S2 M2 q1 ?_
      cases hg : g mx fr' mem' with
      | nx fr3 m3 =>
        rw [hg] at h1
        simp only [SR.andThen_nx] at h1
        intro r3 σ3 H3 s3 t3 S3 M3
        refine gb r3 fr3 m3 σ3 H3 _ S3 M3 ?_
        cases hb : mb fr3 m3 with
        | nx fr4 m4 => rw [hb] at h1; exact fun r4 σ4 H4 s4 t4 S4 M4 => ⟨r4, fr4, m4, s1.trans (s3.trans s4), T2.trans (t3.trans t4), S4, M4, post.trans h1 (s3.trans s4) (st.trans (t3.trans t4))⟩
        | ct fr4 m4 => rw [hb] at h1; exact fun r4 σ4 H4 s4 t4 S4 M4 => ⟨r4, fr4, m4, s1.trans (s3.trans s4), T2.trans (t3.trans t4), S4, M4, post.trans h1 (s3.trans s4) (st.trans (t3.trans t4))⟩
        | bk fr4 m4 => rw [hb] at h1; exact fun r4 σ4 H4 s4 t4 S4 M4 => h1 r4 σ4 H4 (s3.trans s4) (st.trans (t3.trans t4)) S4 M4
        | rt v m4 => rw [hb] at h1; exact fun r4 u H4 s4 t4 S4 M4 => h1 r4 u H4 (s3.trans s4) (st.trans (t3.trans t4)) S4 M4
        | exc c fr4 m4 => rw [hb] at h1; exact fun r4 C σ4 H4 s4 t4 e4 S4 M4 => h1 r4 C σ4 H4 (s3.trans s4) (st.trans (t3.trans t4)) e4 S4 M4
        | bad => rw [hb] at h1; exact h1
      | rt v m4 => rw [hg] at h1; exact fun r4 u H4 s4 t4 S4 M4 => h1 r4 u H4 s4 (st.trans t4) S4 M4
      | bk fr4 m4 => rw [hg] at h1; exact fun r4 σ4 H4 s4 t4 S4 M4 => h1 r4 σ4 H4 s4 (st.trans t4) S4 M4
      | ct fr4 m4 => rw [hg] at h1; exact fun r4 σ4 H4 s4 t4 S4 M4 => ⟨r4, fr4, m4, s1.trans s4, T2.trans t4, S4, M4, post.trans h1 s4 (st.trans t4)⟩
      | exc c fr4 m4 => rw [hg] at h1; exact fun r4 C σ4 H4 s4 t4 e4 S4 M4 => h1 r4 C σ4 H4 s4 (st.trans t4) e4 S4 M4
      | bad => rw [hg] at h1; exact h1
    · exact h1.elim
  · obtain ⟨r1, fr', mem', s1, t1, S1, M1, h1⟩ := q
    rw [List.drop_length] at h1
    unfold MP.forL at h1
    split at h1
    · exact h1 r1 σ' H' (Sub.refl _) (Stay.refl _) S1 M1
    · exact h1.elim

theorem wp_unlk {n : Nat} {kvs : List (Key × MV)} {r : SR} {P : SR.Post} (h : (r.unlk n kvs).wp P) : r.wp { nx := fun fr m => m[n]? = some (.dct true kvs) ∧ P.nx fr (m.set n (.dct false kvs)), rt := fun v m => m[n]? = some (.dct true kvs) ∧ P.rt v (m.set n (.dct false kvs)), bk := fun fr m => m[n]? = some (.dct true kvs) ∧ P.bk fr (m.set n (.dct false kvs)), ct := fun fr m => m[n]? = some (.dct true kvs) ∧ P.ct fr (m.set n (.dct false kvs)), ex := fun c fr m => m[n]? = some (.dct true kvs) ∧ P.ex c fr (m.set n (.dct false kvs)) } := by
  have key : ∀ {m : Mem} {A : Mem → SR} {B : Prop}, ((match MP.unlk n kvs m with
    | some m' => A m'
    | none => .bad : SR).wp P) → (((A (m.set n (.dct false kvs))).wp P) = B) → m[n]? = some (.dct true kvs) ∧ B := fun {m A B} h e => by
    unfold MP.unlk at h
    by_cases hk : m[n]? = some (.dct true kvs)
    · rw [if_pos hk] at h
      exact ⟨hk, e ▸ h⟩
    · rw [if_neg hk] at h
      exact h.elim
  cases r with
  | nx fr m => exact key (A := fun m' => .nx fr m') h rfl
  | rt v m => exact key (A := fun m' => .rt v m') h rfl
  | bk fr m => exact key (A := fun m' => .bk fr m') h rfl
  | ct fr m => exact key (A := fun m' => .ct fr m') h rfl
  | exc c fr m => exact key (A := fun m' => .exc c fr m') h rfl
  | bad => exact h.elim
theorem ls_for {tg iter : Expr} {g : MG} {mb : MS} {it : MI} {body : List Stmt} (hp : PassesOwn (model X.prog X.w) X.A X.env X.xe) (hc : X.calm = true) (hi : LI X (unlW X W) ex tg iter it) (hg : LG X (unlW X W) ex tg g) (hb : LSs X (unlW X W) ex body mb)
    (hs : ∀ x, foldedSetIterable iter X.env x = pure x := by intro _; rfl) : LS X W ex (.For tg iter body [] pos) (MP.sFor it g mb) := by
  obtain ⟨t0, p0, g0⟩ := hi
  obtain ⟨t1, p1, g1⟩ := hg
  obtain ⟨t2, p2, g2⟩ := hb
  refine ⟨_, ps_unl (ps_for hp hc p0 p1 p2 hs), fun rho fr mem σ H D S M h => ?_⟩
  unfold MP.sFor at h
  rw [wp_ofRes] at h
  have up : ∀ {r1 : Rho} {H1 : Hp} {r : SR}, r.wp (post X.K X.mg ex r1 H1 D W) → r.wp (post X.K X.mg ex r1 H1 (unlD X D) (unlW X W)) := fun h => SR.wp_mono h (fun _ _ h r2 s2 H2 a b c d => .inl (h r2 s2 H2 a b c d)) (fun _ _ h r2 s2 H2 a b c d => .inl (h r2 s2 H2 a b c d))
    (fun _ _ h r2 s2 H2 a b c d => .inl (h r2 s2 H2 a b c d)) (fun _ _ h r2 s2 H2 a b c d => .inl (h r2 s2 H2 a b c d)) (fun _ _ _ h r2 C s2 H2 a b c d e => .inl (h r2 C s2 H2 a b c d e))
  refine g0 rho fr mem σ H _ S M (Res.wp_mono h (fun w m1 h1 => ?_) fun c m1 h1 => fun r2 C H2 a b c d => .inl (h1 r2 C σ H2 a b c (S.mono b a) d))
  unfold okI
  split
  · rename_i hl
    rw [hl] at h1
    exact fun r1 H1 s1 t1 M1 J wk => for_run g1 g2 wk (S.mono t1 s1) M1 (up (post.trans h1 s1 t1))
  · rename_i n hl
    rw [hl] at h1
    simp only at h1
    split
    · rename_i kvs hm
      rw [hm] at h1
      exact fun r1 H1 s1 t1 M1 J wk => for_run g1 g2 wk (S.mono t1 s1) M1 (up (post.trans h1 s1 t1))
    · rename_i kvs hm
      rw [hm] at h1
      simp only at h1
      intro r1 H1 d od vs s1 t1 hr M1 hd hn hn2 J wk
      have h2 := wp_unlk h1
      have un : ∀ {r2 : Rho} {H2 : Hp} {m2 : Mem} {R : Rho → Hp → Mem → Prop}, Sub r1 r2 → Stay H1 H2 → SimM X.K X.mg r2 H2 m2 → m2[n]? = some (.dct true kvs) →
          (StayT H2 (upd H2 d (.dK vs)) → SimM X.K X.mg r2 (upd H2 d (.dK vs)) (m2.set n (.dct false kvs)) → Stay H (upd H2 d (.dK vs)) → R r2 (upd H2 d (.dK vs)) (m2.set n (.dct false kvs))) → R r2 (upd H2 d (.dK vs)) (m2.set n (.dct false kvs)) := fun {r2 H2 m2 R} s2 t2 M2 k2 q => by
        have hd2 := t2.frz _ _ _ hd
        obtain ⟨a1, a2⟩ := M2.unlock (s2 n d hr) k2 hd2
        refine q a1 a2 ⟨fun a ws e => ?_, fun a o u e => ?_⟩
        · have hne : a ≠ d := fun z => by
            subst z
            have := t1.tup _ _ e
            rw [hd] at this; cases this
          rw [upd_ne hne]
          exact t2.tup _ _ (t1.tup _ _ e)
        · have hne : a ≠ d := fun z => by
            subst z
            exact hn2 _ _ e
          rw [upd_ne hne]
          exact t2.frz _ _ _ (t1.frz _ _ _ e)
      refine for_run g1 g2 wk (S.mono t1 s1) M1 (SR.wp_mono h2 (fun fr3 m3 q r2 σ2 H2 s2 t2 S2 M2 => ?_) (fun v m3 q r2 u H2 s2 t2 q2 M2 => ?_) (fun fr3 m3 q r2 σ2 H2 s2 t2 S2 M2 => ?_) (fun fr3 m3 q r2 σ2 H2 s2 t2 S2 M2 => ?_) (fun c fr3 m3 q r2 C σ2 H2 s2 t2 e2 S2 M2 => ?_))
      · refine .inr ⟨d, od, _, t2.frz _ _ _ hd, hn, un (R := fun _ H' _ => D.nx σ2 H') s2 t2 M2 q.1 fun a1 a2 a3 => q.2 r2 σ2 _ (s1.trans s2) a3 (S2.monoT a1 (Sub.refl _)) a2⟩
      · refine .inr ⟨d, od, _, t2.frz _ _ _ hd, hn, un (R := fun _ H' _ => D.rt u H') s2 t2 M2 q.1 fun a1 a2 a3 => q.2 r2 u _ (s1.trans s2) a3 (q2.monoT a1 (Sub.refl _)) a2⟩
      · refine .inr ⟨d, od, _, t2.frz _ _ _ hd, hn, un (R := fun _ H' _ => D.bk σ2 H') s2 t2 M2 q.1 fun a1 a2 a3 => q.2 r2 σ2 _ (s1.trans s2) a3 (S2.monoT a1 (Sub.refl _)) a2⟩
      · refine .inr ⟨d, od, _, t2.frz _ _ _ hd, hn, un (R := fun _ H' _ => D.ct σ2 H') s2 t2 M2 q.1 fun a1 a2 a3 => q.2 r2 σ2 _ (s1.trans s2) a3 (S2.monoT a1 (Sub.refl _)) a2⟩
      · refine .inr ⟨d, od, _, t2.frz _ _ _ hd, hn, un (R := fun _ H' _ => W (.ref C) none σ2 H') s2 t2 M2 q.1 fun a1 a2 a3 => q.2 r2 C σ2 _ (s1.trans s2) a3 e2 (S2.monoT a1 (Sub.refl _)) a2⟩
    · rename_i h2 h3
      split at h1
      · rename_i hm; exact (h2 _ hm).elim
      · rename_i hm; exact (h3 _ hm).elim
      · exact h1
end
end ML

/-! MLinkL: comprehensions. -/
namespace ML
open PySem PySem.Spec PyProof.Rows L2
open MP (MV MO Mem Fr ME MA MT MS MG MI MFn Res SR)

/-! ### the readings that speak of MP alone -/
def semE (K : PySem.W.Frag) (mg : Str → Option Value) (W : WX) (ex : ExH) (m : ME) : TE := fun σ H Q => ∃ rho fr mem, SimS K ex rho H fr σ ∧ SimM K mg rho H mem ∧ (m fr mem).wp (okP K mg ex rho H Q) (exP K mg rho H σ W)
def semT (K : PySem.W.Frag) (mg : Str → Option Value) (W : WX) (ex : ExH) (m : MT) : TT := fun σ H Q => ∃ rho fr mem, SimS K ex rho H fr σ ∧ SimM K mg rho H mem ∧ (m fr mem).wp (okB K mg rho H Q) (exP K mg rho H σ W)
def semS (K : PySem.W.Frag) (mg : Str → Option Value) (W : WX) (ex : ExH) (m : MS) : TS := fun D σ H => ∃ rho fr mem, SimS K ex rho H fr σ ∧ SimM K mg rho H mem ∧ (m fr mem).wp (post K mg ex rho H D W)
def noW : WX := fun _ _ _ _ => False
section
variable {X : Cx} {W : WX} {ex : ExH} {e : Expr} {me : ME} {mt : MT} {ss : List Stmt} {ms : MS}
theorem LE.sem (h : LE X W ex e me) : PE X e (semE X.K X.mg W ex me) := by
  obtain ⟨t, p, g⟩ := h
  exact ⟨fun pins s σ H Q I ⟨rho, fr, mem, S, M, q⟩ => p.run pins s σ H Q I (g rho fr mem σ H Q S M q)⟩
theorem LT.sem (h : LT X W ex e mt) : PT X e (semT X.K X.mg W ex mt) := by
  obtain ⟨t, p, g⟩ := h
  exact ⟨fun pins s σ H Q I ⟨rho, fr, mem, S, M, q⟩ => p.run pins s σ H Q I (g rho fr mem σ H Q S M q)⟩
theorem LSs.sem (h : LSs X W ex ss ms) : PSs X ss (semS X.K X.mg W ex ms) := by
  obtain ⟨t, p, g⟩ := h
  exact ⟨fun pins s σ H D I ⟨rho, fr, mem, S, M, q⟩ => p.run pins s σ H D I (g rho fr mem σ H D S M q)⟩

/-! ### targets of a comprehension -/
def Only (vs : List Nat) (t : TG) : Prop := ∀ v σ H Q, t v σ H Q → t v σ H (fun σ2 H2 => L2.wipe σ2 vs = L2.wipe σ vs ∧ Q σ2 H2)
def Onlys (vs : List Nat) (t : TGs) : Prop := ∀ us σ H Q, t us σ H Q → t us σ H (fun σ2 H2 => L2.wipe σ2 vs = L2.wipe σ vs ∧ Q σ2 H2)
theorem wipe_len (σ : L2.St) : ∀ vs, (L2.wipe σ vs).length = σ.length
  | [] => rfl
  | v :: vs => by unfold L2.wipe; rw [List.length_set, wipe_len σ vs]
theorem wipe_get (σ : L2.St) (i : Nat) : ∀ vs, (L2.wipe σ vs)[i]? = if i ∈ vs then (if i < σ.length then some none else none) else σ[i]?
  | [] => by simp [L2.wipe]
  | v :: vs => by
    unfold L2.wipe
    by_cases h : v = i
    · subst h
      by_cases hl : v < σ.length
      · rw [List.getElem?_set_self (by rw [wipe_len]; exact hl), if_pos (by simp), if_pos hl]
      · rw [if_pos (by simp), if_neg hl]
        rw [List.getElem?_eq_none]
        rw [List.length_set, wipe_len]
        omega
    · rw [List.getElem?_set_ne h, wipe_get σ i vs]
      have : (i ∈ v :: vs) ↔ i ∈ vs := by
        rw [List.mem_cons]
        exact ⟨fun z => z.elim (fun y => absurd y.symm h) id, .inr⟩
      simp only [this]
theorem wipe_set (σ : L2.St) (k : Nat) (x : Option V) {vs : List Nat} (h : k ∈ vs) : L2.wipe (σ.set k x) vs = L2.wipe σ vs := by
  apply List.ext_getElem?
  intro i
  rw [wipe_get, wipe_get, List.length_set]
  by_cases hi : i ∈ vs
  · rw [if_pos hi, if_pos hi]
  · rw [if_neg hi, if_neg hi, List.getElem?_set_ne (by intro z; subst z; exact hi h)]
theorem SimS.wipe {K : PySem.W.Frag} {rho : Rho} {H : Hp} {fr : Fr} {σ : L2.St} (S : SimS K ex rho H fr σ) : ∀ vs, SimS K ex rho H (MP.wipe fr vs) (L2.wipe σ vs)
  | [] => S
  | v :: vs => (S.wipe vs).unset v
theorem only_name {k : Nat} {vs : List Nat} (h : k ∈ vs) : Only vs (gName k) := fun v σ H Q q => ⟨wipe_set σ k _ h, q⟩
theorem onlys_nil {vs : List Nat} : Onlys vs gNil := fun us σ H Q q => ⟨q.1, rfl, q.2⟩
theorem onlys_cons {t : TG} {u : TGs} {vs : List Nat} (ht : Only vs t) (hu : Onlys vs u) (mono : ∀ v σ H (Q Q' : L2.St → Hp → Prop), (∀ σ H, Q σ H → Q' σ H) → t v σ H Q → t v σ H Q') : Onlys vs (gCons t u) := fun us σ H Q q => by
  obtain ⟨v, r, e, q⟩ := q
  refine ⟨v, r, e, mono v σ H _ _ (fun σ1 H1 q1 => ?_) (ht v σ H _ q)⟩
  have := hu r σ1 H1 Q q1.2
  rw [q1.1] at this
  exact this
/-- a target in the block, its reading the same in every block -/
def LGc (X : Cx) (vs : List Nat) (scope : Scope) (tg : Expr) (m : MG) : Prop := ∃ t, (∀ (s : Shared) (H : Hp) (C : Addr) (cl : List (Str × Addr)) (fp : List Addr), PG (X.blk s H scope (compEnvC scope cl C X.env) fp) tg t) ∧ GoodG X noW none t m ∧ Only vs t
def LGcs (X : Cx) (vs : List Nat) (scope : Scope) (es : List Expr) (m : List MG) : Prop := ∃ t, (∀ (s : Shared) (H : Hp) (C : Addr) (cl : List (Str × Addr)) (fp : List Addr), PGs (X.blk s H scope (compEnvC scope cl C X.env) fp) es t) ∧ GoodGs X noW none t m ∧ Onlys vs t
variable {vs : List Nat} {scope : Scope} {N : List (Str × Nat × Bool)} {G : List Str} {pos : Pos}
abbrev NmB (X : Cx) (scope : Scope) (N : List (Str × Nat × Bool)) (G : List Str) : Prop := ∀ (s : Shared) (H : Hp) (C : Addr) (cl : List (Str × Addr)) (fp : List Addr), Nm (X.blk s H scope (compEnvC scope cl C X.env) fp) N G
theorem lgc_name (nm : NmB X scope N G) (j : Nat) {k : Nat} {x : Str} (hk : k ∈ vs) (hx : N[j]? = some (x, k, true) := by rfl) : LGc X vs scope (.Name x pos) (MP.gName k) := by
  refine ⟨gName k, fun s H C cl fp => ?_, fun rho x v fr mem σ H Q D S M q h => h rho _ H (Sub.refl _) (Stay.refl _) (S.set k q) M, only_name hk⟩
  obtain ⟨h1, h2⟩ := (nm s H C cl fp).st j x k hx
  exact pg_name (nm s H C cl fp).nd ((nm s H C cl fp).n j x k true hx).1 h1 h2
theorem lgcs_nil : LGcs X vs scope [] [] := ⟨gNil, fun s H C cl fp => pgs_nil, fun rho xs vs fr mem σ H Q D S M l h => by
  cases xs with
  | nil => exact ⟨l.inv_nil, h rho σ H (Sub.refl _) (Stay.refl _) S M⟩
  | cons x xs => exact h.elim, onlys_nil⟩
theorem lgcs_name (nm : NmB X scope N G) (j : Nat) {k : Nat} {x : Str} {es : List Expr} {gs : List MG} (hk : k ∈ vs) (h2 : LGcs X vs scope es gs) (hx : N[j]? = some (x, k, true) := by rfl)
    (hs : ∀ (s : Shared) (H : Hp) (C : Addr) (cl : List (Str × Addr)) (fp : List Addr), (assignEach (.Name x pos :: es) (X.blk s H scope (compEnvC scope cl C X.env) fp).env).map (·.2) = assign (.Name x pos) (X.blk s H scope (compEnvC scope cl C X.env) fp).env :: (assignEach es (X.blk s H scope (compEnvC scope cl C X.env) fp).env).map (·.2) := by intros; rfl) :
    LGcs X vs scope (.Name x pos :: es) (MP.gName k :: gs) := by
  obtain ⟨u, p2, g2, o2⟩ := h2
  refine ⟨gCons (gName k) u, fun s H C cl fp => ?_, fun rho xs vs fr mem σ H Q D S M l h => ?_, onlys_cons (only_name hk) o2 (fun v σ H Q Q' hq q => hq _ _ q)⟩
  · obtain ⟨h1, h2⟩ := (nm s H C cl fp).st j x k hx
    exact pgs_cons (pg_name (nm s H C cl fp).nd ((nm s H C cl fp).n j x k true hx).1 h1 h2) (p2 s H C cl fp) (hs s H C cl fp)
  · cases xs with
    | nil => exact h.elim
    | cons x xs =>
      obtain ⟨v, vs', rfl, q, l'⟩ := l.inv_cons
      exact ⟨v, vs', rfl, g2 rho xs vs' _ mem _ H Q D (S.set k q) M l' h⟩
theorem lgc_tup {es : List Expr} {gs : List MG} {k n : Nat} (hc : X.calm = true) (h : LGcs X vs scope es gs) (hl : gs.length = n)
    (hn : ∀ (s : Shared) (H : Hp) (C : Addr) (cl : List (Str × Addr)) (fp : List Addr), (assignEach es (X.blk s H scope (compEnvC scope cl C X.env) fp).env).length = n := by intros; rfl)
    (hst : ∀ (s : Shared) (H : Hp) (C : Addr) (cl : List (Str × Addr)) (fp : List Addr), (assignEach es (X.blk s H scope (compEnvC scope cl C X.env) fp).env).findIdx? (·.1) = none := by intros; rfl) : LGc X vs scope (.Tuple es k pos) (MP.gTup gs) := by
  obtain ⟨t, p, g, o⟩ := h
  refine ⟨fun v σ H Q => gTup X.K n t v σ H Q ∨ gLst X.K n t v σ H Q, fun s H C cl fp => PG.unl hc (p s H C cl fp) (hn s H C cl fp) (hst s H C cl fp), fun rho x v fr mem σ H Q D S M q h => ?_, fun v σ H Q q => ?_⟩
  · cases x with
    | tup xs =>
      obtain ⟨a, vs, rfl, s1, l1⟩ := tup_at q
      have h' : (if xs.length = gs.length then MP.gAll gs xs fr mem else .bad).wp (post X.K X.mg none rho H { D with nx := Q } noW) := h
      split at h'
      · rename_i hlen
        exact .inl ⟨a, vs, rfl, s1, by rw [← l1.length, hlen, hl], g rho xs vs fr mem σ H Q D S M l1 h'⟩
      · exact h'.elim
    | ref n =>
      cases hm : mem[n]? with
      | none => simp [MP.gTup, hm] at h
      | some o => cases o with
        | lst xs =>
          simp only [MP.gTup, hm] at h
          obtain ⟨a, vs, rfl, _, s1, l1⟩ := lst_at M q hm
          split at h
          · rename_i hlen
            exact .inr ⟨a, vs, rfl, SqL.of s1, by rw [← l1.length, hlen, hl], g rho xs vs fr mem σ H Q D S M l1 h⟩
          · exact h.elim
        | _ => simp [MP.gTup, hm] at h
    | _ => exact h.elim
  · rcases q with ⟨a, xs, e, h1, h2, q⟩ | ⟨a, xs, e, h1, h2, q⟩
    · exact .inl ⟨a, xs, e, h1, h2, o xs σ H Q q⟩
    · exact .inr ⟨a, xs, e, h1, h2, o xs σ H Q q⟩

/-! ### tests -/
def LTc (X : Cx) (scope : Scope) (ifs : List Expr) (m : MT) : Prop := ∀ (s : Shared) (H : Hp) (C : Addr) (cl : List (Str × Addr)) (fp : List Addr), PTs (X.blk s H scope (compEnvC scope cl C X.env) fp) ifs (semT X.K X.mg noW none m)
theorem ltc_nil : LTc X scope [] MP.tYes := fun s H C cl fp => ⟨fun pins s σ H Q I ⟨rho, fr, mem, S, M, q⟩ => pts_nil.run pins s σ H Q I (q rho H (Sub.refl _) (Stay.refl _) M)⟩
theorem ltc_one {c : Expr} (h : ∀ (s : Shared) (H : Hp) (C : Addr) (cl : List (Str × Addr)) (fp : List Addr), LT (X.blk s H scope (compEnvC scope cl C X.env) fp) noW none c mt) : LTc X scope [c] mt := fun s H C cl fp => pts_one (h s H C cl fp).sem

/-! ### the loop of a comprehension -/
theorem comp_run {g : MG} {gt : TG} {J : It} {w : MP.Walk} {rho : Rho} {H : Hp} {D : Addr} {Qd : Hp → Prop} {n : Nat} {P : MV → Mem → Prop} {E : Str → Mem → Prop} (gg : GoodG X noW none gt g) (og : Only vs gt) (wk : WalkM X none rho H w J)
    {fr : Fr} {mem : Mem} {σ : L2.St} (S : SimS X.K none rho H fr σ) (hn : n = mem.length) (M : SimM X.K X.mg rho H mem) (hD : H D = none)
    (h : (MP.compL w.keep g mt me (MP.wipe fr vs) n w.items [] (mem ++ [.lst []])).wp P E)
    (hd : ∀ r1 H1 m1, Sub rho r1 → Stay H H1 → r1[n]? = some D → SimM X.K X.mg r1 H1 m1 → P (.ref n) m1 → Qd H1) :
    ∃ Wf : Nat → Nat → Hp → Prop, (∃ m, Wf 0 m (upd H D (.lst []))) ∧ ∀ i m H, Wf i m H →
      (J.stop i H ∧ Qd H) ∨ (J.go i H ∧ ∃ Nx : Hp → Prop, (∀ H', Nx H' → ∃ m', m' < m ∧ Wf (i + 1) m' H') ∧ ∀ x H', J.yld i H x H' → gt x (L2.wipe σ vs) H' fun σ2 H2 => L2.wipe σ2 vs = L2.wipe σ vs ∧ semT X.K X.mg noW none mt σ2 H2 fun b H3 =>
        if b = true then semE X.K X.mg noW none me σ2 H3 fun y H4 => ∃ acc, H4 D = some (.lst acc) ∧ acc.length < sizeLine ∧ Nx (upd H4 D (.lst (acc ++ [y]))) else Nx H3) := by
  obtain ⟨Gd, Y, wj, hw⟩ := wk.go
  have hlen := M.len
  have hr0 : (rho ++ [D])[n]? = some D := by rw [hn, ← hlen]; simp
  have M0 : SimM X.K X.mg (rho ++ [D]) (upd H D (.lst [])) (mem ++ [.lst []]) := M.push hD rfl ⟨[], upd_same, SimL.nil⟩
  have keepOf : ∀ {items : List MV} {acc : List MV} {m : Mem}, (MP.compL w.keep g mt me (MP.wipe fr vs) n items acc m).wp P E → w.keep m ∧ m[n]? = some (.lst acc) := fun {items acc m} h1 => by
    cases items with
    | nil =>
      unfold MP.compL at h1
      split at h1
      · assumption
      · exact h1.elim
    | cons v vs =>
      unfold MP.compL at h1
      split at h1
      · assumption
      · exact h1.elim
  refine lc_it wj (fun i H' => ∃ r1 mem' acc, Sub rho r1 ∧ Stay H H' ∧ r1[n]? = some D ∧ SimM X.K X.mg r1 H' mem' ∧ (MP.compL w.keep g mt me (MP.wipe fr vs) n (w.items.drop i) acc mem').wp P E)
    ⟨rho ++ [D], _, [], Sub.snoc _ _, Stay.new hD, hr0, M0, h⟩ (fun i H' hi q => ?_) (fun i x H1 H2 hi q y => ?_) (fun H' q => ?_)
  · obtain ⟨r1, mem', acc, s1, t1, r0, M1, h1⟩ := q
    exact (hw r1 H' mem' s1 t1 M1 (keepOf h1).1).1
  · obtain ⟨r1, mem', acc, s1, t1, r0, M1, h1⟩ := q
    obtain ⟨hk, hacc⟩ := keepOf h1
    have hd : w.items.drop i = w.items[i] :: w.items.drop (i + 1) := List.drop_eq_getElem_cons hi
    rw [hd] at h1
    unfold MP.compL at h1
    rw [if_pos ⟨hk, hacc⟩] at h1
    obtain ⟨st, hm, mx, e1, q1⟩ := (hw r1 H1 mem' s1 t1 M1 hk).2 i x H2 hi y
    have e2 : w.items[i] = mx := by
      rw [List.getElem?_eq_getElem hi] at e1
      exact Option.some.inj e1
    rw [e2] at h1
    have T2 := t1.trans st
    have S2 := ((S.mono T2 s1).wipe vs)
    have M2 := hm mem' M1
    have := og x (L2.wipe σ vs) H2 _ (gg r1 mx x (MP.wipe fr vs) mem' _ H2 (fun σ2 H2 => semT X.K X.mg noW none mt σ2 H2 fun b H3 =>
        if b = true then semE X.K X.mg noW none me σ2 H3 fun y H4 => ∃ acc, H4 D = some (.lst acc) ∧ acc.length < sizeLine ∧ (∃ r1 mem' acc', Sub rho r1 ∧ Stay H (upd H4 D (.lst (acc ++ [y]))) ∧ r1[n]? = some D ∧ SimM X.K X.mg r1 (upd H4 D (.lst (acc ++ [y]))) mem' ∧ (MP.compL w.keep g mt me (MP.wipe fr vs) n (w.items.drop (i + 1)) acc' mem').wp P E)
        else (∃ r1 mem' acc, Sub rho r1 ∧ Stay H H3 ∧ r1[n]? = some D ∧ SimM X.K X.mg r1 H3 mem' ∧ (MP.compL w.keep g mt me (MP.wipe fr vs) n (w.items.drop (i + 1)) acc mem').wp P E)) { nx := fun _ _ => True, rt := fun _ _ => True } S2 M2 q1 ?_)
    · have ww : L2.wipe (L2.wipe σ vs) vs = L2.wipe σ vs := by
        apply List.ext_getElem?
        intro i
        rw [wipe_get, wipe_get, wipe_len]
        by_cases hi : i ∈ vs
        · rw [if_pos hi, if_pos hi]
        · rw [if_neg hi, if_neg hi]
      rw [ww] at this
      exact this
    · cases hg : g mx (MP.wipe fr vs) mem' with
      | nx fr3 m3 =>
        rw [hg] at h1
        intro r3 σ3 H3 s3 t3 S3 M3
        refine ⟨r3, fr3, m3, S3, M3, ?_⟩
        cases ht : mt fr3 m3 with
        | ok b m4 =>
          simp only [ht] at h1
          intro r4 H4 s4 t4 M4
          have U4 := s1.trans (s3.trans s4)
          have T4 := T2.trans (t3.trans t4)
          cases b with
          | false =>
            exact ⟨r4, m4, acc, U4, T4, s4 n D (s3 n D r0), M4, h1⟩
          | true =>
            rw [if_pos rfl]
            refine ⟨r4, fr3, m4, S3.mono t4 s4, M4, ?_⟩
            cases he : me fr3 m4 with
            | ok y5 m5 =>
              simp only [he] at h1
              intro r5 v5 H5 s5 t5 q5 M5
              split at h1
              · rename_i hc
                have r5D : r5[n]? = some D := s5 n D (s4 n D (s3 n D r0))
                obtain ⟨us, h6, l6⟩ := M5.get r5D hc.1
                have st6 : Stay H5 (upd H5 D (.lst (us ++ [v5]))) := Stay.write h6 (fun _ z => nomatch z) (fun _ _ z => nomatch z)
                refine ⟨us, h6, by rw [← l6.length, ← line_eq]; exact hc.2, r5, _, acc ++ [y5], U4.trans s5, (T4.trans t5).trans st6, r5D, ?_, h1⟩
                exact M5.write r5D hc.1 h6 (fun _ z => nomatch z) (fun _ _ z => nomatch z) rfl rfl ⟨_, upd_same, (l6.append (SimL.cons q5 SimL.nil)).mono st6 (Sub.refl _)⟩
              · exact h1.elim
            | exc c m5 => simp only [he] at h1; exact h1.elim
            | bad => simp only [he] at h1; exact h1.elim
        | exc c m4 => simp only [ht] at h1; exact h1.elim
        | bad => simp only [ht] at h1; exact h1.elim
      | rt v m4 => rw [hg] at h1; exact h1.elim
      | bk fr4 m4 => rw [hg] at h1; exact h1.elim
      | ct fr4 m4 => rw [hg] at h1; exact h1.elim
      | exc c fr4 m4 => rw [hg] at h1; exact h1.elim
      | bad => rw [hg] at h1; exact h1.elim
  · obtain ⟨r1, mem', acc, s1, t1, r0, M1, h1⟩ := q
    rw [List.drop_length] at h1
    have hk := keepOf h1
    unfold MP.compL at h1
    rw [if_pos hk] at h1
    exact hd r1 H' mem' s1 t1 r0 M1 h1

theorem wp_unlkR {n : Nat} {kvs : List (Key × MV)} {r : Res MV} {P : MV → Mem → Prop} {E : Str → Mem → Prop} (h : (r.unlk n kvs).wp P E) : r.wp (fun v m => m[n]? = some (.dct true kvs) ∧ P v (m.set n (.dct false kvs))) (fun c m => m[n]? = some (.dct true kvs) ∧ E c (m.set n (.dct false kvs))) := by
  cases r with
  | ok v m =>
    unfold Res.unlk MP.unlk at h
    by_cases hk : m[n]? = some (.dct true kvs)
    · simp only [if_pos hk] at h
      exact ⟨hk, h⟩
    · simp only [if_neg hk] at h
      exact h.elim
  | exc c m =>
    unfold Res.unlk MP.unlk at h
    by_cases hk : m[n]? = some (.dct true kvs)
    · simp only [if_pos hk] at h
      exact ⟨hk, h⟩
    · simp only [if_neg hk] at h
      exact h.elim
  | bad => exact h.elim
def tLcM (X : Cx) (wi : TI) (gt : TG) (mt : MT) (me : ME) (vs : List Nat) : TE := tLc wi gt (semT X.K X.mg noW none mt) (semE X.K X.mg noW none me) vs
theorem good_lc {t0 : TI} {gt : TG} {g : MG} {it : MI} {own : List Nat} (g0 : GoodI X W none t0 it) (g1 : GoodG X noW none gt g) (o1 : Only own gt) : GoodE X W none (fun σ H Q => tLcM X t0 gt mt me own σ H fun v => unl X (Q v)) (MP.eComp own it g mt me) := fun rho fr mem σ H Q S M h => by
  unfold MP.eComp at h
  rw [Res.wp_bind] at h
  refine g0 rho fr mem σ H _ S M (Res.wp_mono h (fun w m1 h1 => ?_) fun c m1 h1 => h1)
  have fin : ∀ {r1 : Rho} {H1 : Hp} {w : MP.Walk} {J : It} {m1 : Mem}, Sub rho r1 → Stay H H1 → SimM X.K X.mg r1 H1 m1 → WalkM X none r1 H1 w J → (MP.compL w.keep g mt me (MP.wipe fr own) m1.length w.items [] (m1 ++ [.lst []])).wp (okP X.K X.mg none rho H Q) (exP X.K X.mg rho H σ W) →
      ∀ D, H1 D = none → ∃ Wf : Nat → Nat → Hp → Prop, (∃ m, Wf 0 m (upd H1 D (.lst []))) ∧ ∀ i m H, Wf i m H → (J.stop i H ∧ unl X (Q (.ref D)) H) ∨ (J.go i H ∧ ∃ Nx : Hp → Prop, (∀ H', Nx H' → ∃ m', m' < m ∧ Wf (i + 1) m' H') ∧ ∀ x H', J.yld i H x H' → gt x (L2.wipe σ own) H' fun σ2 H2 => L2.wipe σ2 own = L2.wipe σ own ∧ semT X.K X.mg noW none mt σ2 H2 fun b H3 =>
        if b = true then semE X.K X.mg noW none me σ2 H3 fun y H4 => ∃ acc, H4 D = some (.lst acc) ∧ acc.length < sizeLine ∧ Nx (upd H4 D (.lst (acc ++ [y]))) else Nx H3) := fun {r1 H1 w J m1} s1 t1 M1 wk h D hD =>
    comp_run (E := exP X.K X.mg rho H σ W) g1 o1 wk (S.mono t1 s1) rfl M1 hD h (fun r2 H2 m2 s2 t2 e2 M2 q => .inl (q r2 _ H2 (s1.trans s2) (t1.trans t2) (SimV.ref e2) M2))
  unfold okI
  split
  · rename_i hl
    simp only [hl] at h1
    exact fun r1 H1 s1 t1 M1 J wk => fin s1 t1 M1 wk h1
  · rename_i n hl
    simp only [hl] at h1
    split
    · rename_i kvs hm
      simp only [hm] at h1
      exact fun r1 H1 s1 t1 M1 J wk => fin s1 t1 M1 wk h1
    · rename_i kvs hm
      simp only [hm] at h1
      intro r1 H1 d od vs s1 t1 hr M1 hd hn hn2 J wk D hD
      have h2 := wp_unlkR h1
      have el : m1.length = (m1.set n (.dct true kvs)).length := by rw [List.length_set]
      refine comp_run (mt := mt) (me := me) g1 o1 wk (S.mono t1 s1) el M1 hD h2 (fun r2 H2 m2 s2 t2 e2 M2 q => ?_)
      have hd2 := t2.frz _ _ _ hd
      obtain ⟨a1, a2⟩ := M2.unlock (s2 n d hr) q.1 hd2
      refine .inr ⟨d, od, _, hd2, hn, q.2 r2 _ _ (s1.trans s2) ⟨fun a ws e => ?_, fun a o u e => ?_⟩ (SimV.ref e2) a2⟩
      · have hne : a ≠ d := fun z => by
          subst z
          have := t1.tup _ _ e
          rw [hd] at this; cases this
        rw [upd_ne hne]
        exact t2.tup _ _ (t1.tup _ _ e)
      · have hne : a ≠ d := fun z => by
          subst z
          exact hn2 _ _ e
        rw [upd_ne hne]
        exact t2.frz _ _ _ (t1.frz _ _ _ e)
    · rename_i h2 h3
      split at h1
      · rename_i hm; exact (h2 _ hm).elim
      · rename_i hm; exact (h3 _ hm).elim
      · exact h1
theorem le_lc {elt tg iter : Expr} {ifs : List Expr} {own : List (Str × Nat)} {it : MI} {g : MG} (hc : X.calm = true) (hN : X.N.Nodup) (hi : LI X W none tg iter it) (ok : BlkOk X.N X.env.scope scope own) (hg : LGc X (own.map (·.2)) scope tg g) (ht : LTc X scope ifs mt)
    (he : ∀ (s : Shared) (H : Hp) (C : Addr) (cl : List (Str × Addr)) (fp : List Addr), LE (X.blk s H scope (compEnvC scope cl C X.env) fp) noW none elt me) (hs : ∀ x, foldedSetIterable iter X.env x = pure x := by intro _; rfl) :
    LE X W none (.ListComp elt [⟨tg, iter, ifs, 0⟩] scope pos) (MP.eComp (own.map (·.2)) it g mt me) := by
  obtain ⟨t0, p0, g0⟩ := hi
  obtain ⟨t1, p1, g1, o1⟩ := hg
  exact ⟨_, pe_unl (pe_lc (te := semE X.K X.mg noW none me) hc hN p0 ok p1 ht (fun s H C cl fp => (he s H C cl fp).sem) hs), good_lc g0 g1 o1⟩
theorem ls_setLc (nm : Nm X N G) (j : Nat) {k : Nat} {y : Str} {py spos : Pos} {elt tg iter : Expr} {ifs : List Expr} {own : List (Str × Nat)} {it : MI} {g : MG} (hc : X.calm = true) (hk : X.env.scope.kind = .function) (hyl : X.env.scope.names.lookup y = some .local) (hl : (py.line == pos.line) = true) (ha : (scope.names.any fun (n, k) => n == y && (k == .local || k == .cell)) = false)
    (hi : LI X W none tg iter it) (ok : BlkOk X.N X.env.scope scope own) (hg : LGc X (own.map (·.2)) scope tg g) (ht : LTc X scope ifs mt)
    (he : ∀ (s : Shared) (H : Hp) (C : Addr) (cl : List (Str × Addr)) (fp : List Addr), LE (X.blk s H scope (compEnvC scope cl C X.env) fp) noW none elt me) (hx : N[j]? = some (y, k, true) := by rfl) (hs : ∀ x, foldedSetIterable iter X.env x = pure x := by intro _; rfl) :
    LS X W none (.Assign [.Name y py] (.ListComp elt [⟨tg, iter, ifs, 0⟩] scope pos) spos) (MP.sSet k (MP.eComp (own.map (·.2)) it g mt me)) := by
  obtain ⟨t0, p0, g0⟩ := hi
  obtain ⟨t1, p1, g1, o1⟩ := hg
  have p := ps_unl (ps_setLc (te := semE X.K X.mg noW none me) (i := k) (spos := spos) hc nm.nd (nm.n j y k true hx).1 hyl (sw_true hk hyl hl ha) p0 ok p1 ht (fun s H C cl fp => (he s H C cl fp).sem) hs)
  exact ⟨_, p, GoodE.set (g1 := good_lc g0 g1 o1) k⟩
end
end ML

/-! MLinkM: try; isinstance of what is caught. -/
namespace ML
open PySem PySem.Spec PyProof.Rows L2
open MP (MV MO Mem Fr ME MA MT MS MG MI MFn Res SR)
section
variable {K : PySem.W.Frag} {ex : ExH} {rho : Rho} {H : Hp}
mutual
theorem SimV.drop : ∀ {x : MV} {v : V}, SimV K ex rho H x v → MP.noX x = true → SimV K none rho H x v
  | .non, v, h, _ => h
  | .bl b, v, h, _ => h
  | .int i, v, h, _ => h
  | .str s, v, h, _ => h
  | .tup xs, v, h, n => by
    unfold SimV at h ⊢
    obtain ⟨a, vs, e, q, hp, l⟩ := h
    exact ⟨a, vs, e, q, hp, SimL.drp l (by unfold MP.noX at n; exact n)⟩
  | .ref n, v, h, _ => h
  | .exn c, v, h, n => by unfold MP.noX at n; cases n
theorem SimL.drp : ∀ {xs : List MV} {vs : List V}, SimL K ex rho H xs vs → MP.noXs xs = true → SimL K none rho H xs vs
  | [], vs, h, _ => h
  | x :: xs, vs, h, n => by
    unfold SimL at h ⊢
    obtain ⟨v, vs', e, q, l⟩ := h
    unfold MP.noXs at n
    rw [Bool.and_eq_true] at n
    exact ⟨v, vs', e, SimV.drop q n.1, SimL.drp l n.2⟩
end
theorem frX_at : ∀ {fr : Fr} {i : Nat} {x : MV}, MP.frX fr = true → fr[i]? = some (some x) → MP.noX x = true
  | [], i, x, _, e => by simp at e
  | none :: r, i, x, h, e => by
    cases i with
    | zero => simp at e
    | succ i => exact frX_at (fr := r) (by unfold MP.frX at h; exact h) (by simpa using e)
  | some v :: r, i, x, h, e => by
    unfold MP.frX at h
    rw [Bool.and_eq_true] at h
    cases i with
    | zero =>
      have e' : v = x := by simpa using e
      exact e' ▸ h.1
    | succ i => exact frX_at (fr := r) h.2 (by simpa using e)
theorem SimS.drop {fr : Fr} {σ : L2.St} (S : SimS K ex rho H fr σ) (h : MP.frX fr = true) : SimS K none rho H fr σ :=
  ⟨S.len, fun i x e => let ⟨v, h1, h2⟩ := S.at_ i x e; ⟨v, h1, h2.drop (frX_at h e)⟩⟩
theorem SimS.ex0 (ex : ExH) {fr : Fr} {σ : L2.St} (S : SimS K none rho H fr σ) : SimS K ex rho H fr σ :=
  ⟨S.len, fun i x e => let ⟨v, h1, h2⟩ := S.at_ i x e; ⟨v, h1, h2.ex0 ex⟩⟩
end
/-- what the clause's class catches, by the raised class's name -/
structure Catch (K : PySem.W.Frag) (mg : Str → Option Value) (x : Str) (h : Str → Option Bool) : Prop where
  ex : ∃ c, mg x = some c ∧ ∀ (C : Str) (Ca : Addr) (b : Bool), h C = some b → mg C = some (.ref Ca) → PySem.W.exmOne K (.ref Ca) c = some b
section
variable {X : Cx} {W : WX} {N : List (Str × Nat × Bool)} {G : List Str} {body suite : List Stmt} {b₀ : Stmt} {mb ms : MS} {h : Str → Option Bool} {np pos pos' : Pos}
theorem ls_try_as (nm : Nm X N G) (j jx : Nat) {x n : Str} {i : Nat} {b : Bool} (hs : X.stack = X.env :: X.outer) (hf : X.env.frame = some X.env.locals) (hln : X.env.kindOf n = some .local) (cat : Catch X.K X.mg x h) (tk : Takes X W)
    (hb : ∀ (W : WX) (pn : List (Addr × Obj)) (xe : Value → Shared → Prop), Takes (X.tr pn xe) W → PassesOwn (model X.prog X.w) X.A X.env xe → LSs (X.tr pn xe) W none body mb)
    (hsu : ∀ (a : Addr) (oe : Obj) (C : Str) (Ca : Addr) (pn : List (Addr × Obj)), X.mg C = some (.ref Ca) → Zc (.ref Ca) none oe → (∃ vs, oe.data = .fields vs) → LSs (X.suite a ((a, oe) :: pn)) noW (some (a, C)) (b₀ :: suite) ms)
    (hx : G[jx]? = some x := by rfl) (hn : N[j]? = some (n, i, b) := by rfl) :
    LS X W none (.Try body [.ExceptHandler (some (.Name x np)) (some n) (b₀ :: suite) pos'] [] [] pos) (MP.sTry mb h (some i) ms) := by
  obtain ⟨c, h1, h2⟩ := cat.ex
  refine ⟨_, ps_try_as (i := i) (tb := fun W => semS X.K X.mg W none mb) (ts := fun a cls d D σ H => d = none ∧ ∃ C Ca, cls = .ref Ca ∧ X.mg C = some (.ref Ca) ∧ semS X.K X.mg noW (some (a, C)) ms D σ H) (Wout := W) hs hf nm.nd (nm.n j n i b hn).1 hln ⟨(nm.gl jx x hx).1, (nm.gl jx x hx).2.1, .inl h1⟩ tk
    (fun W' pn xe tk' hp => (hb W' pn xe tk' hp).sem) (fun a oe cls d pn hz hf' => ?_), fun rho fr mem σ H D S M q => ?_⟩
  · refine ⟨fun pins s σ H D I ⟨hd, C, Ca, e1, e2, q⟩ => ?_⟩
    subst e1 hd
    exact (hsu a oe C Ca pn e2 hz hf').sem.run pins s σ H D I q
  · refine ⟨rho, fr, mem, S, M, ?_⟩
    unfold MP.sTry at q
    cases hm : mb fr mem with
    | exc c' fr' m' =>
      simp only [hm] at q
      intro r1 C σ1 H1 s1 t1 e1 S1 M1
      cases hh : h c' with
      | none => rw [hh] at q; exact q.elim
      | some b' =>
        refine ⟨b', h2 c' C b' hh e1, fun eb a ha => ?_, fun eb => ?_⟩
        · subst eb
          simp only [hh] at q
          refine ⟨rfl, c', C, rfl, e1, r1, fr'.set i (some (.exn c')), m', (S1.ex0 (some (a, c'))).set i (by unfold SimV; exact ⟨a, rfl, rfl⟩), M1, ?_⟩
          cases hms : ms (fr'.set i (some (.exn c'))) m' with
          | nx fr2 m2 =>
            simp only [hms] at q
            split at q
            · rename_i hc
              exact fun r2 σ2 H2 s2 t2 S2 M2 => q r2 _ H2 (s1.trans s2) (t1.trans t2) ((S2.unset i).drop hc) M2
            · exact q.elim
          | rt v m2 =>
            simp only [hms] at q
            split at q
            · rename_i hc
              exact fun r2 u H2 s2 t2 q2 M2 => q r2 _ H2 (s1.trans s2) (t1.trans t2) (q2.drop hc) M2
            · exact q.elim
          | bk fr2 m2 => simp only [hms] at q; exact q.elim
          | ct fr2 m2 => simp only [hms] at q; exact q.elim
          | exc c2 fr2 m2 => simp only [hms] at q; exact q.elim
          | bad => simp only [hms] at q; exact q.elim
        · subst eb
          simp only [hh] at q
          exact q r1 C σ1 H1 s1 t1 e1 S1 M1
    | nx fr' m' => simp only [hm] at q; exact q
    | rt v m' => simp only [hm] at q; exact q
    | bk fr' m' => simp only [hm] at q; exact q
    | ct fr' m' => simp only [hm] at q; exact q
    | bad => simp only [hm] at q; exact q
theorem ls_try_only (nm : Nm X N G) (jx : Nat) {x : Str} (hs : X.stack = X.env :: X.outer) (hf : X.env.frame = some X.env.locals) (cat : Catch X.K X.mg x h) (tk : Takes X W)
    (hb : ∀ (W : WX) (pn : List (Addr × Obj)) (xe : Value → Shared → Prop), Takes (X.tr pn xe) W → PassesOwn (model X.prog X.w) X.A X.env xe → LSs (X.tr pn xe) W none body mb)
    (hsu : ∀ (a : Addr) (oe : Obj) (pn : List (Addr × Obj)), LSs (X.suite a ((a, oe) :: pn)) noW none (b₀ :: suite) ms)
    (hx : G[jx]? = some x := by rfl) :
    LS X W none (.Try body [.ExceptHandler (some (.Name x np)) none (b₀ :: suite) pos'] [] [] pos) (MP.sTry mb h none ms) := by
  obtain ⟨c, h1, h2⟩ := cat.ex
  refine ⟨_, ps_try_only (tb := fun W => semS X.K X.mg W none mb) (ts := fun a cls d => semS X.K X.mg noW none ms) (Wout := W) hs hf ⟨(nm.gl jx x hx).1, (nm.gl jx x hx).2.1, .inl h1⟩ tk
    (fun W' pn xe tk' hp => (hb W' pn xe tk' hp).sem) (fun a oe cls d pn hz hf' => (hsu a oe pn).sem), fun rho fr mem σ H D S M q => ?_⟩
  · refine ⟨rho, fr, mem, S, M, ?_⟩
    unfold MP.sTry at q
    cases hm : mb fr mem with
    | exc c' fr' m' =>
      simp only [hm] at q
      intro r1 C σ1 H1 s1 t1 e1 S1 M1
      cases hh : h c' with
      | none => rw [hh] at q; exact q.elim
      | some b' =>
        refine ⟨b', h2 c' C b' hh e1, fun eb a ha => ?_, fun eb => ?_⟩
        · subst eb
          simp only [hh] at q
          refine ⟨r1, fr', m', S1, M1, ?_⟩
          cases hms : ms fr' m' with
          | exc c2 fr2 m2 => simp only [hms] at q; exact q.elim
          | nx fr2 m2 => simp only [hms] at q; exact post.trans q s1 t1
          | rt v m2 => simp only [hms] at q; exact post.trans q s1 t1
          | bk fr2 m2 => simp only [hms] at q; exact post.trans q s1 t1
          | ct fr2 m2 => simp only [hms] at q; exact post.trans q s1 t1
          | bad => simp only [hms] at q; exact q.elim
        · subst eb
          simp only [hh] at q
          exact q r1 C σ1 H1 s1 t1 e1 S1 M1
    | nx fr' m' => simp only [hm] at q; exact q
    | rt v m' => simp only [hm] at q; exact q
    | bk fr' m' => simp only [hm] at q; exact q
    | ct fr' m' => simp only [hm] at q; exact q
    | bad => simp only [hm] at q; exact q
end
end ML

/-! MLinkN: built-ins by name, methods of lists. -/
namespace ML
open PySem PySem.Spec PyProof.Rows L2
open MP (MV MO Mem Fr ME MA MT MS MG MI MFn Res SR)
section
variable {X : Cx} {W : WX} {ex : ExH} {a b c e : Expr} {ma mb mc me : ME} {pos p p2 : Pos} {N : List (Str × Nat × Bool)} {G : List Str}
/-- a built-in of one value -/
theorem le_b1 {id : String} {x : Str} {r : List V → Hp → VK → Prop} {f : MV → Mem → Res MV} (hc : CallR X (.builtin id) r) (g : GoodR1 X (fun v H Q => r [v] H Q) f) (hn : NoEx1 f) (nm : Nm X N G) (j : Nat) (hm : X.mg x = none) (hv : bootBuiltins x = some (.builtin id)) (ha : LE X W ex a ma)
    (hx : G[j]? = some x := by rfl) (he : starEach [a] X.env = (false, eval a X.env) :: starEach [] X.env := by rfl) (hpl : (backTo pos (starEach [] X.env)).any (·.1) = false := by rfl) : LE X W ex (.Call (.Name x p) [a] [] pos) (MP.e1 f ma) := by
  obtain ⟨t1, p1, g1⟩ := ha
  refine ⟨_, pe_callB hc (nm.gl j x hx).1 hm hv (pa_cons p1 pa_nil he) (nm.gl j x hx).2.2 (nm.gl j x hx).2.1 he hpl, fun rho fr mem σ H Q S M h => ?_⟩
  exact (GoodE.bind1 (r := fun v H Q => r [v] H Q) g1 g hn) rho fr mem σ H Q S M h
/-- a built-in type of one value -/
theorem le_t1 {T : String} {x : Str} {r : List V → Hp → VK → Prop} {f : MV → Mem → Res MV} (hc : CallR X (.type T) r) (g : GoodR1 X (fun v H Q => r [v] H Q) f) (hn : NoEx1 f) (nm : Nm X N G) (j : Nat) (hm : X.mg x = none) (hv : bootBuiltins x = some (.type T)) (ha : LE X W ex a ma)
    (hx : G[j]? = some x := by rfl) (he : starEach [a] X.env = (false, eval a X.env) :: starEach [] X.env := by rfl) (hpl : (backTo pos (starEach [] X.env)).any (·.1) = false := by rfl) : LE X W ex (.Call (.Name x p) [a] [] pos) (MP.e1 f ma) := by
  obtain ⟨t1, p1, g1⟩ := ha
  refine ⟨_, pe_callTy hc (nm.gl j x hx).1 hm hv (pa_cons p1 pa_nil he) (nm.gl j x hx).2.2 (nm.gl j x hx).2.1 he hpl, fun rho fr mem σ H Q S M h => ?_⟩
  exact (GoodE.bind1 (r := fun v H Q => r [v] H Q) g1 g hn) rho fr mem σ H Q S M h
/-! ### len, abs, int, str -/
def rLenM (X : Cx) : List V → Hp → VK → Prop := fun xs H Q => (∃ x n, xs = [x] ∧ LenV X.K x H n ∧ Q (.int n) H) ∨ ∃ p kvs, xs = [.ref p] ∧ Rd H p (.dK kvs) ∧ Q (.int kvs.length) H
theorem call_lenM : CallR X (.builtin "len") (rLenM X) := call_len.or fun pins s σ H xs us Q I r h => by
  obtain ⟨p, kvs, rfl, e, q⟩ := h
  obtain ⟨u, rfl, rx⟩ := vals1 r
  cases rx
  exact d_len I e fun t s' I' => ⟨.int kvs.length, H, I', ⟨_, rfl⟩, q⟩
theorem good_len : GoodR1 X (fun v H Q => rLenM X [v] H Q) MP.oLen := fun ex rho mem H x v Q E q1 M q => by
  cases x with
  | tup xs =>
    obtain ⟨p, vs, e1, s1, l1⟩ := tup_at q1
    refine .inl ⟨v, vs.length, rfl, by rw [e1]; exact .inr ⟨vs, s1, rfl⟩, ?_⟩
    rw [← l1.length]
    exact okP.at q (SimV.int _) M
  | str s =>
    simp only [MP.oLen] at q
    split at q
    · rename_i hc
      exact .inl ⟨v, s.length, rfl, by rw [str_at q1]; exact ⟨by rw [← line_eq]; exact hc, rfl⟩, okP.at q (SimV.int _) M⟩
    · exact q.elim
  | ref n =>
    cases hm : mem[n]? with
    | none => simp [MP.oLen, hm] at q
    | some o => cases o with
      | lst xs =>
        simp only [MP.oLen, hm] at q
        obtain ⟨p, vs, e1, _, s1, l1⟩ := lst_at M q1 hm
        refine .inl ⟨v, vs.length, rfl, by rw [e1]; exact .inl ⟨vs, SqL.of s1, rfl⟩, ?_⟩
        rw [← l1.length]
        exact okP.at q (SimV.int _) M
      | rol xs =>
        simp only [MP.oLen, hm] at q
        obtain ⟨p, vs, e1, _, s1, l1⟩ := rol_at M q1 hm
        refine .inl ⟨v, vs.length, rfl, by rw [e1]; exact .inl ⟨vs, s1, rfl⟩, ?_⟩
        rw [← l1.length]
        exact okP.at q (SimV.int _) M
      | dct lk kvs =>
        simp only [MP.oLen, hm] at q
        obtain ⟨p, vs, e1, _, s1, l1⟩ := dct_at M q1 hm
        refine .inr ⟨p, vs, by rw [e1], s1, ?_⟩
        rw [← l1.length]
        exact okP.at q (SimV.int _) M
      | ins C fs => simp [MP.oLen, hm] at q
  | _ => exact q.elim
theorem nx_len : NoEx1 MP.oLen := fun x m c m' h => by
  unfold MP.oLen at h
  repeat' split at h
  all_goals cases h
theorem good_abs : GoodR1 X (fun v H Q => ∃ i, [v] = [V.int i] ∧ Q (.int (if i < 0 then -i else i)) H) MP.oAbs := fun ex rho mem H x v Q E q1 M q => by
  cases x <;> first | exact q.elim | skip
  rename_i i
  exact ⟨i, by rw [int_at q1], okP.at q (SimV.int _) M⟩
theorem nx_abs : NoEx1 MP.oAbs := fun x m c m' h => by
  unfold MP.oAbs at h
  repeat' split at h
  all_goals cases h
theorem good_intB : GoodR1 X (fun v H Q => (∃ i, [v] = [V.int i] ∧ Q (.int i) H) ∨ ∃ k, [v] = [V.bl k] ∧ Q (.int (if k then 1 else 0)) H) MP.oIntB := fun ex rho mem H x v Q E q1 M q => by
  cases x <;> first | exact q.elim | skip
  · rename_i k
    exact .inr ⟨k, by rw [bl_at q1], okP.at q (SimV.int _) M⟩
  · rename_i i
    exact .inl ⟨i, by rw [int_at q1], okP.at q (SimV.int _) M⟩
theorem nx_intB : NoEx1 MP.oIntB := fun x m c m' h => by
  unfold MP.oIntB at h
  repeat' split at h
  all_goals cases h
theorem good_strI : GoodR1 X (fun v H Q => ∃ i : Int, [v] = [V.int i] ∧ i.natAbs.log2 < 1920 ∧ Q (.str (toString i)) H) MP.oStrI := fun ex rho mem H x v Q E q1 M q => by
  cases x <;> first | exact q.elim | skip
  rename_i i
  simp only [MP.oStrI] at q
  split at q
  · rename_i hc
    refine ⟨i, by rw [int_at q1], ?_, okP.at q (SimV.str _) M⟩
    by_cases h0 : i.natAbs = 0
    · rw [h0]; decide
    · have : i.natAbs < 2 ^ 1900 := by unfold MP.STRB at hc; exact hc
      have := (Nat.log2_lt h0).mpr this
      omega
  · exact q.elim
theorem nx_strI : NoEx1 MP.oStrI := fun x m c m' h => by
  unfold MP.oStrI at h
  repeat' split at h
  all_goals cases h

/-! ### all, any -/
theorem allBl_at {rho : Rho} {H : Hp} : ∀ {xs : List MV} {vs : List V} {bs : List Bool}, SimL X.K ex rho H xs vs → MP.allBl xs = some bs → vs = bs.map V.bl
  | [], vs, bs, l, h => by cases h; rw [l.inv_nil]; rfl
  | x :: xs, vs, bs, l, h => by
    obtain ⟨v, vs', rfl, q, l'⟩ := l.inv_cons
    cases x with
    | bl b =>
      have h' : (MP.allBl xs).map (b :: ·) = some bs := h
      cases e : MP.allBl xs with
      | none => rw [e] at h'; cases h'
      | some cs =>
        rw [e] at h'
        simp only [Option.map_some, Option.some.injEq] at h'
        subst h'
        rw [bl_at q, allBl_at l' e]
        rfl
    | _ => cases h
theorem good_all : GoodR1 X (fun v H Q => rAll X.K [v] H Q) MP.oAll := fun ex rho mem H x v Q E q1 M q => by
  cases x with
  | ref n =>
    cases hm : mem[n]? with
    | none => simp [MP.oAll, hm] at q
    | some o => cases o with
      | lst xs =>
        simp only [MP.oAll, hm] at q
        cases e : MP.allBl xs with
        | none => rw [e] at q; exact q.elim
        | some bs =>
          rw [e] at q
          obtain ⟨p, vs, e1, _, s1, l1⟩ := lst_at M q1 hm
          have := allBl_at l1 e
          subst this
          exact ⟨p, bs, by rw [e1], SqL.of s1, okP.at q (SimV.bl _) M⟩
      | _ => simp [MP.oAll, hm] at q
  | _ => exact q.elim
theorem nx_all : NoEx1 MP.oAll := fun x m c m' h => by
  unfold MP.oAll at h
  repeat' split at h
  all_goals cases h
theorem good_any : GoodR1 X (fun v H Q => rAny X.K [v] H Q) MP.oAny := fun ex rho mem H x v Q E q1 M q => by
  cases x with
  | ref n =>
    cases hm : mem[n]? with
    | none => simp [MP.oAny, hm] at q
    | some o => cases o with
      | lst xs =>
        simp only [MP.oAny, hm] at q
        cases e : MP.allBl xs with
        | none => rw [e] at q; exact q.elim
        | some bs =>
          rw [e] at q
          obtain ⟨p, vs, e1, _, s1, l1⟩ := lst_at M q1 hm
          have := allBl_at l1 e
          subst this
          exact ⟨p, bs, by rw [e1], SqL.of s1, okP.at q (SimV.bl _) M⟩
      | _ => simp [MP.oAny, hm] at q
  | _ => exact q.elim
theorem nx_any : NoEx1 MP.oAny := fun x m c m' h => by
  unfold MP.oAny at h
  repeat' split at h
  all_goals cases h

/-! ### isinstance of a built-in type -/
def tyN : MP.Ty → String
  | .int => "int" | .bool => "bool" | .str => "str" | .tuple => "tuple" | .list => "list" | .dict => "dict"
theorem tyX_seqT {K : PySem.W.Frag} {H : Hp} {p : Addr} {vs : List V} (h : SqT K H p vs) : TyX K H (.ref p) (.type "tuple") := by
  rcases h with (h | ⟨o, h⟩) | ⟨o, its, n, h, hc, _⟩
  · exact .base (.tup h)
  · exact .fTuple h
  · exact .kTuple h hc
theorem isTy_at {rho : Rho} {mem : Mem} {H : Hp} {x : MV} {v : V} {t : MP.Ty} {k : Bool} (q1 : SimV X.K ex rho H x v) (M : SimM X.K X.mg rho H mem) (h : MP.isTy t x mem = some k) : ∃ T, TyX X.K H v (.type T) ∧ kitB T (tyN t) = some k := by
  cases x with
  | non => rw [non_at q1]; refine ⟨_, .base .non, ?_⟩; cases h; cases t <;> decide +kernel
  | bl b => rw [bl_at q1]; refine ⟨_, .base (.bl b), ?_⟩; cases h; cases t <;> decide +kernel
  | int b => rw [int_at q1]; refine ⟨_, .base (.int b), ?_⟩; cases h; cases t <;> decide +kernel
  | str b => rw [str_at q1]; refine ⟨_, .base (.str b), ?_⟩; cases h; cases t <;> decide +kernel
  | tup xs =>
    obtain ⟨p, vs, e1, s1, l1⟩ := tup_at q1
    rw [e1]; refine ⟨_, tyX_seqT s1, ?_⟩; cases h; cases t <;> decide +kernel
  | ref n =>
    cases hm : mem[n]? with
    | none => simp [MP.isTy, hm] at h
    | some o => cases o with
      | lst xs =>
        simp only [MP.isTy, hm, Option.some.injEq] at h
        obtain ⟨p, vs, e1, _, s1, l1⟩ := lst_at M q1 hm
        rw [e1]; refine ⟨_, .base (.lst s1), ?_⟩; subst h; cases t <;> decide +kernel
      | dct lk kvs =>
        simp only [MP.isTy, hm, Option.some.injEq] at h
        obtain ⟨p, vs, e1, _, s1, l1⟩ := dct_at M q1 hm
        rw [e1]
        rcases s1 with s1 | ⟨o, s1⟩
        · refine ⟨_, .base (.dK s1), ?_⟩; subst h; cases t <;> decide +kernel
        · refine ⟨_, .fDict s1, ?_⟩; subst h; cases t <;> decide +kernel
      | _ => simp [MP.isTy, hm] at h
  | exn c => cases h
theorem le_isTy (nm : Nm X N G) (j jt : Nat) {T : Str} (t : MP.Ty) (hm : X.mg "isinstance" = none) (hmT : X.mg T = none) (hT : bootBuiltins T = some (.type (tyN t))) (ha : LE X W ex a ma) (hx : G[j]? = some "isinstance" := by rfl) (hxT : G[jt]? = some T := by rfl)
    (he : starEach [a, .Name T p2] X.env = (false, eval a X.env) :: starEach [.Name T p2] X.env := by rfl) (he2 : starEach [.Name T p2] X.env = (false, eval (.Name T p2) X.env) :: starEach [] X.env := by rfl) (hpl : (backTo pos (starEach [.Name T p2] X.env)).any (·.1) = false := by rfl) :
    LE X W ex (.Call (.Name "isinstance" p) [a, .Name T p2] [] pos) (MP.e1 (MP.oIsTy t) ma) := by
  obtain ⟨t1, p1, g1⟩ := ha
  have pT : PE X (.Name T p2) (tC (.ty (tyN t))) := pe_bltn (nm.gl jt T hxT).1 hmT hT rfl (nm.gl jt T hxT).2.2 (nm.gl jt T hxT).2.1
  refine ⟨_, pe_callB call_isi (nm.gl j _ hx).1 hm boot_isinstance (pa_cons p1 (pa_cons pT pa_nil he2) he) (nm.gl j _ hx).2.2 (nm.gl j _ hx).2.1 he hpl, fun rho fr mem σ H Q S M h => ?_⟩
  unfold MP.e1 at h
  rw [Res.wp_bind] at h
  refine g1 rho fr mem σ H _ S M (Res.wp_mono h (fun x m1 h1 r1 v H1 s1 t1 q1 M1 => ?_) fun c m1 h1 => h1)
  unfold MP.oIsTy at h1
  cases e : MP.isTy t x m1 with
  | none => rw [e] at h1; exact h1.elim
  | some k =>
    rw [e] at h1
    obtain ⟨T', h2, h3⟩ := isTy_at q1 M1 e
    exact ⟨v, .ty (tyN t), .type T', .type (tyN t), k, rfl, .ty _, h2, kit_ty h3, h1 r1 _ H1 s1 t1 (SimV.bl _) M1⟩

/-! ### xs.append(v) -/
theorem le_append {apos : Pos} (ha : LE X W none a ma) (hb : LE X W none b mb) (hbase : attributeBase a "append" X.env (eval a X.env) = eval a X.env := by rfl) (he : starEach [b] X.env = (false, eval b X.env) :: starEach [] X.env := by rfl)
    (hfew : ((backTo pos (starEach [b] X.env)).all (fun x => !x.1) && (backToKw pos (keywordEach [] X.env)).all (fun x => x.1.isSome)
      && decide ([b].length + ([] : List Keyword).length + (if ([] : List Keyword).isEmpty then 0 else 1) < 30)) = true := by rfl)
    (hline : (apos.endLine == pos.line) = true := by rfl) (hplain : (backTo pos (starEach [] X.env)).any (·.1) = false := by rfl) : LE X W none (.Call (.Attribute a "append" apos) [b] [] pos) (MP.eAppend ma mb) := by
  obtain ⟨t1, p1, g1⟩ := ha
  obtain ⟨t2, p2, g2⟩ := hb
  refine ⟨_, pe_bm PySem.F.plainAttrs_list PySem.F.slot_list_append PySem.F.type_list_append mt_append p1 (pa_cons p2 pa_nil he) hbase hfew hline he hplain, fun rho fr mem σ H Q S M h => ?_⟩
  unfold MP.eAppend at h
  rw [Res.wp_bind] at h
  refine g1 rho fr mem σ H _ S M (Res.wp_mono h (fun x m1 h1 r1 v H1 s1 t1 q1 M1 => ?_) fun c m1 h1 => h1)
  cases x with
  | ref n =>
    simp only at h1
    cases hm : m1[n]? with
    | none => simp [hm] at h1
    | some o => cases o with
      | lst xs =>
        simp only [hm] at h1
        obtain ⟨d, vs, e1, hr, e2, l1⟩ := lst_at M1 q1 hm
        refine ⟨by rw [e1]; exact .inl ⟨rfl, vs, SqL.of e2⟩, ?_⟩
        rw [Res.wp_bind] at h1
        refine g2 r1 fr m1 σ H1 _ (S.mono t1 s1) M1 (Res.wp_mono h1 (fun y m2 h2 r2 w H2 s2 t2 q2 M2 => ?_) fun c m2 h2 => exP.trans h2 s1 t1)
        cases hm2 : m2[n]? with
        | none => simp [hm2] at h2
        | some o2 => cases o2 with
          | lst ys =>
            simp only [hm2] at h2
            split at h2
            · rename_i hc
              have hr2 := s2 n d hr
              obtain ⟨us, e3, l3⟩ := M2.get hr2 hm2
              have st : Stay H2 (upd H2 d (.lst (us ++ [w]))) := Stay.write e3 (fun _ z => nomatch z) (fun _ _ z => nomatch z)
              refine ⟨d, us, w, e1, rfl, e3, by rw [← l3.length, ← line_eq]; exact hc, ?_⟩
              exact h2 r2 _ _ (s1.trans s2) ((t1.trans t2).trans st) SimV.non (M2.write hr2 hm2 e3 (fun _ z => nomatch z) (fun _ _ z => nomatch z) rfl rfl ⟨_, upd_same, (l3.append (SimL.cons q2 SimL.nil)).mono st (Sub.refl _)⟩)
            · exact h2.elim
          | _ => simp [hm2] at h2
      | _ => simp [hm] at h1
  | _ => exact h1.elim
end
end ML

/-! MLinkO: enumerate of a list, of a tuple. -/
namespace ML
open PySem PySem.Spec PyProof.Rows L2
open MP (MV MO Mem Fr ME MA MT MS MG MI MFn Res SR)
open Sem (wp)
theorem en_newB {v : Value} {o : Obj} {Hh : Heap → Prop} (B : Begins v o Hh) : Meets (Builtin.«enumerate.__new__» ⟨[.type "enumerate", v], []⟩) (fun _ R s => Hh s.heap ∧
    R (.ok (.ret (.ref (s.heap.push o).objs.size))) { s with heap := (s.heap.push o).push { cls := .type "enumerate", data := .fields #[.none, .bool false, .ref s.heap.objs.size, rawInt 0, .none, .none] } }) :=
  .of_wp fun prog w A R s hall => by
    obtain ⟨hp, gn, dr, tk, os⟩ := s
    obtain ⟨h1, hr⟩ := hall
    have hsub := sub_enumerate
    have it1 : ∀ {A' : Around} {E Q : Value → Shared → Prop}, Q (.ref hp.objs.size) ⟨hp.push o, gn, dr, tk, os⟩ → wpAny (model prog w) A' (pyIter v) Q E ⟨hp, gn, dr, tk, os⟩ := fun q => B.iter prog w _ _ ⟨hp, gn, dr, tk, os⟩ _ h1 q
    wp_walk using it1
    refine wpAny_stack_any fun st => wpAny_pure ?_
    split
    · rename_i cc _ _ _ _ _
      cases (cc == Value.type "enumerate") <;> (wp_walk using it1; exact ⟨_, rfl, hr⟩)
    · (wp_walk using it1; exact ⟨_, rfl, hr⟩)
theorem en_begins {prog : Program} {w : World} {A : Around} {E : Value → Shared → Prop} {s : Shared} {v : Value} {o : Obj} {Hh : Heap → Prop} {Q : Value → Shared → Prop} (B : Begins v o Hh) (h1 : Hh s.heap)
    (hq : ∀ h', IsEnum h' (s.heap.objs.size + 1) s.heap.objs.size 0 .none → h'.get? s.heap.objs.size = some o → (∀ b ob, s.heap.get? b = some ob → h'.get? b = some ob) → Q (.ref (s.heap.objs.size + 1)) { s with heap := h' }) :
    wpAny (model prog w) A (call (.type "enumerate") [v]) Q E s := by
  have size1 : (s.heap.push o).objs.size = s.heap.objs.size + 1 := Heap.size_push ..
  refine callType_new F.called_enumerate (by decide) (F.typeCall_enumerate_1 _) (F.newCall_enumerate_1 _) (fun obj => F.args_object_init_2 obj _) F.entry_enumerate_new (en_newB B) ⟨h1, ?_⟩
  show _ ∧ _
  rw [size1]
  have here : IsEnum ((s.heap.push o).push { cls := .type "enumerate", data := .fields #[.none, .bool false, .ref s.heap.objs.size, rawInt 0, .none, .none] }) (s.heap.objs.size + 1) s.heap.objs.size 0 .none := by
    have := Heap.get?_push_size (s.heap.push o) (o := { cls := .type "enumerate", data := .fields #[.none, .bool false, .ref s.heap.objs.size, rawInt 0, .none, .none] }) rfl
    rw [size1] at this
    exact this
  exact ⟨⟨_, here, rfl⟩, hq _ here (Heap.get?_push_of_some _ (Heap.get?_push_size _ B.free)) fun b ob e => Heap.get?_push_of_some _ (Heap.get?_push_of_some _ e)⟩
/-- the tuple at a, each item in a new pair -/
def IteT (K : PySem.W.Frag) (a : Addr) : It :=
  ⟨fun i H => ∃ (xs : List V) (x : V), SqT K H a xs ∧ xs[i]? = some x, fun i H v H' => ∃ T x, v = .ref T ∧ H T = none ∧ H' = upd H T (.tup [.int (i : Nat), x]) ∧ ∀ xs, SqT K H a xs → xs[i]? = some x, fun i H => ∃ xs : List V, SqT K H a xs ∧ xs.length = i⟩
theorem turn_enumT {P : Program} {w : World} {K : PySem.W.Frag} {elts : List Expr} {kk : Nat} {tpos : Pos} (a e it : Addr) :
    Turn P w K (.Tuple elts kk tpos) (IteT K a) [e, it] e (fun i h => (∃ old, IsEnum h e it ((i : Nat) : Int) old) ∧ h.IsTupleIter it a i ∧ e ≠ it) where
  mem := List.mem_cons_self
  obj := fun i h st b hb => by
    obtain ⟨⟨old, he⟩, ⟨ob, ho, hc, hd⟩, _⟩ := st
    rcases List.mem_cons.mp hb with rfl | hb
    · exact ⟨_, he, fun v q => nomatch q⟩
    · rw [List.mem_singleton.mp hb]
      exact ⟨ob, ho, fun v q => by rw [hd] at q; cases q⟩
  keep := fun i h h' st k => let ⟨⟨old, he⟩, hi, hne⟩ := st; ⟨⟨old, k e (by simp) _ he⟩, hi.at fun ob q => k it (by simp) ob q, hne⟩
  item := by
    intro X hP hw hK hc i pins s σ H E I hf st hg
    subst hP hw hK
    obtain ⟨⟨old, he⟩, hit, hne⟩ := st
    obtain ⟨xs, x, hq, hx⟩ := hg
    obtain ⟨its, rv, p, hz⟩ := I.tuple hq
    obtain ⟨u, hu, ru⟩ := rv.get hx
    have lt_e : e < s.heap.objs.size := Heap.lt_size he
    have lt_it : it < s.heap.objs.size := by obtain ⟨_, q, _⟩ := hit; exact Heap.lt_size q
    have ta : a ≠ it := fun z => by
      obtain ⟨_, q1, q2, _⟩ := hit
      obtain ⟨_, q3, q4, _⟩ := p
      rw [z, q1] at q3
      cases q3
      rw [q2] at q4
      injection q4 with q5
      exact absurd q5 (by decide)
    have te : e ≠ a := fun z => by
      obtain ⟨_, q3, q4, _⟩ := p
      rw [← z, he] at q3
      cases q3
      injection q4 with q5
      exact absurd q5 (by decide)
    have hlt : i < its.toArray.size := by
      rw [List.size_toArray, ← rv.length]
      exact (List.getElem?_eq_some_iff.mp hx).1
    refine wpAny_pyNext_enum_itemD (Draws.tuple (prog := X.prog) (w := X.w) (A := X.A.in1) (show X.A.in1.handled = none from I.ok.hd hc) it a ta its.toArray) he ⟨hit, p⟩ hlt hne (by intro z; rcases List.mem_cons.mp z with z | z; exact hne z; exact te (List.mem_singleton.mp z)) fun y h' tk hy ho hst hT hsz hk => ?_
    have hy' : y = u := by
      have : its.toArray[i]? = some u := by simpa using hu
      rw [this] at hy
      exact (Option.some.inj hy).symm
    subst hy'
    refine ⟨_, rfl, wpAny_letOwnedTupleGo_enum (s := { s with heap := h', toks := tk + 1 }) ho fun h'' he' sb => ?_⟩
    have hT2 : h''.get? s.heap.objs.size = some { cls := .type "tuple", data := .seq #[.int i tk, y] } := (sb.2 _ (Nat.ne_of_gt lt_e)).trans hT
    have new : ObjOk X.prog X.w (upd H s.heap.objs.size (.tup [.int (i : Nat), x])) h'' s.heap.objs.size (.tup [.int (i : Nat), x]) :=
      ⟨by show 2 ≤ sizeLine; decide, [.int i tk, y], .cons ⟨_, rfl⟩ (.cons ru .nil), ⟨_, hT2, rfl, _, rfl⟩⟩
    have I1 : Inv X pins σ (upd H s.heap.objs.size (.tup [.int (i : Nat), x])) { s with heap := h'', toks := tk + 1 } :=
      I.turnedNew (ch := [e, it]) (fun b ob hb q => (sb.2 b (fun z => hb (by simp [z]))).trans (hk b ob (fun z => hb (by simp [z])) (fun z => hb (by simp [z])) q)) hf (Nat.le_refl _) new
    refine ⟨.ref s.heap.objs.size, _, I1, rfl, ⟨_, x, rfl, I.hok.fresh (Nat.le_refl _), rfl, fun ys hy => by rw [I.tuple_inj hy hq]; exact hx⟩, ⟨⟨y, ?_⟩, hst.1.at fun ob q => (sb.2 it (Ne.symm hne)).trans q, hne⟩, fun b hb => ?_⟩
    · rw [show ((i + 1 : Nat) : Int) = (i : Int) + 1 by omega]
      exact he'
    · have hb' : b < s.heap.objs.size := by
        rcases List.mem_cons.mp hb with rfl | hb
        · exact lt_e
        · rw [List.mem_singleton.mp hb]; exact lt_it
      rw [upd_ne (Nat.ne_of_lt hb')]
      exact (hf b hb).1
  done := by
    intro X hP hw hK hc i pins s σ H E I hf st hg
    subst hP hw hK
    obtain ⟨⟨old, he⟩, hit, hne⟩ := st
    obtain ⟨xs, hq, hx⟩ := hg
    obtain ⟨its, rv, p, hz⟩ := I.tuple hq
    obtain ⟨f0, f1, f2, f3, f4, f5⟩ := hf it (by simp)
    have ta : a ≠ it := fun z => by
      obtain ⟨_, q1, q2, _⟩ := hit
      obtain ⟨_, q3, q4, _⟩ := p
      rw [z, q1] at q3
      cases q3
      rw [q2] at q4
      injection q4 with q5
      exact absurd q5 (by decide)
    have hl := rv.length
    have hi : i = its.toArray.size := by rw [List.size_toArray, ← hl]; exact hx.symm
    have D := Draws.tuple (prog := X.prog) (w := X.w) (A := X.A.in1) (show X.A.in1.handled = none from I.ok.hd hc) it a ta its.toArray
    exact wpAny_pyNext_enum_endD D he ⟨hi ▸ hit, p⟩ fun h' eb => ⟨rfl, I.turned (t' := s.toks) (fun b ob hb q => eb b ob hb q) f0 f1 f3 f4 f5⟩
  self := fun A i s Q E st h => let ⟨⟨_, he⟩, _⟩ := st; wpAny_pyIter_enum he h

def iEnumT (K : PySem.W.Frag) (ta : TA) : TI := fun σ H R => ta σ H fun vs H1 => ∃ a xs, vs = [.ref a] ∧ SqT K H1 a xs ∧ R (IteT K a) H1
theorem pi_enumT {X : Cx} {e : Expr} {ta : TA} {p pos tpos : Pos} {elts : List Expr} {kk : Nat} (hg : Gl X "enumerate") (hm : X.mg "enumerate" = none) (ha : PA X [e] ta) (hs : starEach [e] X.env = [(false, eval e X.env)] := by rfl) :
    PI X (.Tuple elts kk tpos) (.Call (.Name "enumerate" p) [e] [] pos) (iEnumT X.K ta) := by
  refine ⟨fun pins s σ H R I h => ?_⟩
  refine Call_ (ld_blt I hg hm boot_enumerate (PyProof.Rows.callWith_type1 (thn (ha.run pos pins s σ H _ I h) fun us s1 ⟨vs, H1, I1, r1, q1⟩ => ?_) hs rfl))
  obtain ⟨a, xs, ex, hq, q⟩ := q1
  subst ex
  obtain ⟨u, rfl, rx⟩ := vals1 r1
  cases rx
  obtain ⟨its, rv, p', hz⟩ := I1.tuple hq
  refine en_begins (begins_tuple a its.toArray) p' fun h' he hit hk => wpAny_pyIter_enum he ?_
  have I2 : Inv X pins σ H1 { s1 with heap := h' } := I1.kept (t' := s1.toks) hk
  refine ⟨s1.heap.objs.size + 1, [s1.heap.objs.size + 1, s1.heap.objs.size], _, _, H1, rfl, I2, turn_enumT a (s1.heap.objs.size + 1) s1.heap.objs.size, ⟨⟨.none, he⟩, ⟨_, hit, rfl, rfl⟩, Nat.succ_ne_self _⟩, fun b hb => ?_, q⟩
  have hle : s1.heap.objs.size ≤ b := by
    rcases List.mem_cons.mp hb with rfl | hb
    · exact Nat.le_add_right _ _
    · rw [List.mem_singleton.mp hb]; exact Nat.le_refl _
  exact I1.fpOk hle (I1.hok.fresh hle)
theorem enumL_len : ∀ (xs : List MV) (k : Nat), (MP.enumL xs k).length = xs.length
  | [], k => rfl
  | x :: r, k => by
    have : MP.enumL (x :: r) k = .tup [.int (k : Int), x] :: MP.enumL r (k + 1) := rfl
    rw [this, List.length_cons, List.length_cons, enumL_len r]
theorem enumL_get : ∀ (xs : List MV) (k i : Nat) (x : MV), xs[i]? = some x → (MP.enumL xs k)[i]? = some (.tup [.int ((k + i : Nat) : Int), x])
  | [], k, i, x, h => by simp at h
  | y :: r, k, i, x, h => by
    have e : MP.enumL (y :: r) k = .tup [.int (k : Int), y] :: MP.enumL r (k + 1) := rfl
    rw [e]
    cases i with
    | zero =>
      have : y = x := by simpa using h
      subst this
      rfl
    | succ i =>
      rw [List.getElem?_cons_succ, enumL_get r (k + 1) i x (by simpa using h)]
      congr 5
      omega
section
variable {X : Cx} {W : WX} {ex : ExH} {a : Expr} {ma : ME} {N : List (Str × Nat × Bool)} {G : List Str}
theorem walkm_enumT {rho : Rho} {H : Hp} {d : Addr} {xs : List MV} {vs : List V} (hs : SqT X.K H d vs) (l : SimL X.K ex rho H xs vs) : WalkM X ex rho H ⟨MP.enumL xs 0, fun _ => True, none⟩ (IteT X.K d) := by
  refine ⟨fun H' => SqT X.K H' d vs, fun i H1 v H2 => ∃ T x, v = .ref T ∧ H1 T = none ∧ H2 = upd H1 T (.tup [.int (i : Nat), x]) ∧ vs[i]? = some x, ⟨fun i H' hi q => ?_, fun H' q => ?_, fun i H' x H2 hi q y => ?_⟩, fun rho1 H1 m1 s t M k => ⟨t.seq hs, fun i v H2 hi y => ?_⟩⟩
  · have hi' : i < vs.length := by rw [← l.length, ← enumL_len xs 0]; exact hi
    exact ⟨vs, vs[i], q, by simp [hi']⟩
  · exact ⟨vs, q, by rw [← l.length, ← enumL_len xs 0]⟩
  · obtain ⟨T, x, h1, h2, h3, h4⟩ := y
    exact ⟨T, x, h1, h2, h3, h4 vs q⟩
  · obtain ⟨T, x, rfl, hT, rfl, e1⟩ := y
    have hi' : i < xs.length := by rw [← enumL_len xs 0]; exact hi
    obtain ⟨v', e2, q⟩ := l.get (i := i) (x := xs[i]) (by simp [hi'])
    rw [e1] at e2; cases e2
    have st := Stay.new (o := .tup [.int (i : Nat), x]) hT
    refine ⟨st, fun m hm => hm.fresh hT, .tup [.int ((0 + i : Nat) : Int), xs[i]], enumL_get xs 0 i _ (by simp [hi']), ?_⟩
    unfold SimV
    refine ⟨T, _, rfl, SqT.of upd_same, fun z => absurd rfl z, SimL.cons ?_ (SimL.cons (q.mono (t.trans st) s) SimL.nil)⟩
    rw [Nat.zero_add]
    exact SimV.int _
theorem walkm_enum {rho : Rho} {H : Hp} {n : Nat} {d : Addr} {xs : List MV} (hr : rho[n]? = some d) : WalkM X ex rho H ⟨MP.enumL xs 0, fun m => m[n]? = some (.lst xs), none⟩ (Ite X.K d) := by
  refine ⟨fun H' => ∃ vs, SqL X.K H' d vs ∧ vs.length = xs.length, fun i H1 v H2 => ∃ T x, v = .ref T ∧ H1 T = none ∧ H2 = upd H1 T (.tup [.int (i : Nat), x]) ∧ ∀ vs, SqL X.K H1 d vs → vs[i]? = some x, ⟨fun i H' hi q => ?_, fun H' q => ?_, fun i H' x H2 hi q y => y⟩, fun rho1 H1 m1 s t M k => ?_⟩
  · obtain ⟨vs, q1, q2⟩ := q
    have hi' : i < vs.length := by rw [q2, ← enumL_len xs 0]; exact hi
    exact ⟨vs, vs[i], q1, by simp [hi']⟩
  · obtain ⟨vs, q1, q2⟩ := q
    exact ⟨vs, q1, Nat.le_of_eq (by rw [q2, ← enumL_len xs 0])⟩
  · obtain ⟨vs, h1, l1⟩ := M.get (s n d hr) k
    refine ⟨⟨vs, SqL.of h1, l1.length.symm⟩, fun i v H2 hi y => ?_⟩
    obtain ⟨T, x, rfl, hT, rfl, e1⟩ := y
    have hi' : i < xs.length := by rw [← enumL_len xs 0]; exact hi
    obtain ⟨v', e2, q⟩ := l1.get (i := i) (x := xs[i]) (by simp [hi'])
    rw [e1 vs (SqL.of h1)] at e2; cases e2
    have st := Stay.new (o := .tup [.int (i : Nat), x]) hT
    refine ⟨st, fun m hm => hm.fresh hT, .tup [.int ((0 + i : Nat) : Int), xs[i]], enumL_get xs 0 i _ (by simp [hi']), ?_⟩
    unfold SimV
    refine ⟨T, _, rfl, SqT.of upd_same, fun z => absurd rfl z, SimL.cons ?_ (SimL.cons ((q.ex0 ex).mono st (Sub.refl _)) SimL.nil)⟩
    rw [Nat.zero_add]
    exact SimV.int _
theorem li_enum {elts : List Expr} {kk : Nat} {p pos tpos : Pos} (nm : Nm X N G) (j : Nat) (hm : X.mg "enumerate" = none) (ha : LE X W ex a ma) (hx : G[j]? = some "enumerate" := by rfl) (hs : starEach [a] X.env = [(false, eval a X.env)] := by rfl) :
    LI X W ex (.Tuple elts kk tpos) (.Call (.Name "enumerate" p) [a] [] pos) (MP.iEnum ma) := by
  obtain ⟨t1, p1, g1⟩ := ha
  have pa := pa_cons p1 pa_nil (by rw [hs]; rfl)
  refine ⟨_, PI.or (pi_enum (nm.gl j _ hx).1 hm pa hs) (pi_enumT (nm.gl j _ hx).1 hm pa hs), fun rho fr mem σ H R S M h => ?_⟩
  unfold MP.iEnum at h
  rw [Res.wp_bind] at h
  cases e0 : ma fr mem with
  | bad => rw [e0] at h; exact h.elim
  | exc c m1 =>
    rw [e0] at h
    exact .inl (g1 rho fr mem σ H _ S M (by rw [e0]; exact h))
  | ok x m1 =>
    rw [e0] at h
    simp only [Res.wp_ok] at h
    have go : ∀ Q : V → Hp → Prop, okP X.K X.mg ex rho H Q x m1 → t1 σ H Q := fun Q hq => g1 rho fr mem σ H Q S M (by rw [e0]; exact hq)
    cases x with
    | tup xs =>
      refine .inr (go _ fun r1 v H1 s1 t1 q1 M1 => ?_)
      obtain ⟨d, vs, e, s2, l1⟩ := tup_at q1
      exact ⟨d, vs, by rw [e], s2, h r1 H1 s1 t1 M1 _ (walkm_enumT s2 l1)⟩
    | ref n =>
      simp only at h
      cases hm : m1[n]? with
      | none => simp [hm] at h
      | some o => cases o with
        | lst xs =>
          simp only [hm, Res.wp_ok] at h
          refine .inl (go _ fun r1 v H1 s1 t1 q1 M1 => ?_)
          obtain ⟨d, vs, e, hr, s2, l1⟩ := lst_at M1 q1 hm
          exact ⟨d, vs, by rw [e], SqL.of s2, h r1 H1 s1 t1 M1 _ (walkm_enum hr)⟩
        | _ => simp [hm] at h
    | _ => exact h.elim
end
end ML

/-! MLinkP: powers of constants, names within a comprehension, the class of what is caught. -/
namespace ML
open PySem PySem.Spec PyProof.Rows L2
open MP (MV MO Mem Fr ME MA MT MS MG MI MFn Res SR)
section
variable {X : Cx} {W : WX} {ex : ExH} {a : Expr} {ma : ME} {pos p p2 : Pos} {N : List (Str × Nat × Bool)} {G : List Str}
theorem le_pow {i : Int} {j : Nat} {k1 k2 : Nat} {p1 p2 : Pos} (h1 : i.natAbs < 2 ^ 64) (h2 : j ≤ 1000) : LE X W ex (.BinOp (.Constant (.int i) k1 p1) .Pow (.Constant (.int (j : Int)) k2 p2) pos) (MP.eInt (i ^ j)) := by
  refine ⟨_, pe_op op_pow pe_int pe_int, fun rho fr mem σ H Q S M h => ?_⟩
  refine ⟨i, (j : Int), rfl, rfl, ⟨Int.natCast_nonneg _, by omega, h1⟩, ?_⟩
  show Q (V.int (i ^ ((j : Int)).toNat)) H
  rw [Int.toNat_natCast]
  exact okP.at h (SimV.int _) M
/-- a comprehension's names, by the scope that it lies in -/
def relS (scope sc : Scope) : Scope :=
  { scope with names := scope.names.map fun (n, k) => if (k == .free && sc.kind == .function && sc.names.lookup n == some .cell) then (n, .cell) else (n, k) }
theorem nmb_of {scope sc : Scope} {NN : List Str} (h : nmC NN N G false (relS scope sc) = true) (hN : X.N = NN) (nd : X.N.Nodup) (hs : X.env.scope = sc) : NmB X scope N G := fun s H C cl fp => by
  subst hN hs
  exact nm_of (X := X.blk s H scope (compEnvC scope cl C X.env) fp) h rfl nd rfl (fun z => Bool.noConfusion z)
/-- isinstance(e, x) of a caught exception: by the classes' names -/
structure IsEx (K : PySem.W.Frag) (mg : Str → Option Value) (x : Str) (h : Str → Option Bool) : Prop where
  ex : ∃ (c : V) (cv : Value), (mg x = some cv ∨ (mg x = none ∧ bootBuiltins x = some cv ∧ x ≠ "__name__")) ∧ RelV c cv ∧ (∀ u, RelV c u → u = cv) ∧ ∀ (C : Str) (Ca : Addr) (b : Bool), h C = some b → mg C = some (.ref Ca) → ExcC K Ca ∧ PySem.W.kitOne K (.ref Ca) cv = some b
theorem le_isExc {a_ : Addr} {oe : Obj} {pn : List (Addr × Obj)} {C : Str} {Ca : Addr} {x : Str} {h : Str → Option Bool} {e : Expr} {me : ME} (nm : Nm (X.suite a_ ((a_, oe) :: pn)) N G) (j jx : Nat) (hm : X.mg "isinstance" = none) (I : IsEx X.K X.mg x h) (hC : X.mg C = some (.ref Ca)) (hz : Zc (.ref Ca) none oe) (hf : ∃ vs, oe.data = .fields vs)
    (he : LE (X.suite a_ ((a_, oe) :: pn)) W (some (a_, C)) e me) (hx : G[j]? = some "isinstance" := by rfl) (hxT : G[jx]? = some x := by rfl)
    (h1 : starEach [e, .Name x p2] X.env = (false, eval e X.env) :: starEach [.Name x p2] X.env := by rfl) (h2 : starEach [.Name x p2] X.env = (false, eval (.Name x p2) X.env) :: starEach [] X.env := by rfl) (hpl : (backTo pos (starEach [.Name x p2] X.env)).any (·.1) = false := by rfl) :
    LE (X.suite a_ ((a_, oe) :: pn)) W (some (a_, C)) (.Call (.Name "isinstance" p) [e, .Name x p2] [] pos) (MP.e1 (MP.oIsExc h) me) := by
  obtain ⟨t1, p1, g1⟩ := he
  obtain ⟨c, cv, hc, rc, uc, hk⟩ := I.ex
  have pT : PE (X.suite a_ ((a_, oe) :: pn)) (.Name x p2) (tC c) := by
    rcases hc with hc | ⟨hc, hb, hn⟩
    · exact pe_glob (nm.gl jx x hxT).1 hc rc (nm.gl jx x hxT).2.1
    · exact pe_bltn (nm.gl jx x hxT).1 hc hb rc hn (nm.gl jx x hxT).2.1
  by_cases hh : ∃ b, h C = some b
  · obtain ⟨b, hb⟩ := hh
    obtain ⟨k1, k2⟩ := hk C Ca b hb hC
    refine ⟨_, pe_callB (call_isE k1 hz hf) (nm.gl j _ hx).1 hm boot_isinstance (pa_cons p1 (pa_cons pT pa_nil h2) h1) (nm.gl j _ hx).2.2 (nm.gl j _ hx).2.1 h1 hpl, fun rho fr mem σ H Q S M q => ?_⟩
    unfold MP.e1 at q
    rw [Res.wp_bind] at q
    refine g1 rho fr mem σ H _ S M (Res.wp_mono q (fun x m1 h1 r1 v H1 s1 t1 q1 M1 => ?_) fun c m1 h1 => h1)
    cases x <;> first | exact h1.elim | skip
    rename_i c'
    unfold SimV at q1
    obtain ⟨a1, e1, rfl⟩ := q1
    cases e1
    simp only [MP.oIsExc, hb] at h1
    exact ⟨c, cv, b, rfl, uc, k2, h1 r1 _ H1 s1 t1 (SimV.bl _) M1⟩
  · refine ⟨_, pe_callB (r := fun _ _ _ => False) (fun _ _ _ _ _ _ _ _ _ h => h.elim) (nm.gl j _ hx).1 hm boot_isinstance (pa_cons p1 (pa_cons pT pa_nil h2) h1) (nm.gl j _ hx).2.2 (nm.gl j _ hx).2.1 h1 hpl, fun rho fr mem σ H Q S M q => ?_⟩
    · unfold MP.e1 at q
      rw [Res.wp_bind] at q
      refine g1 rho fr mem σ H _ S M (Res.wp_mono q (fun x m1 h1 r1 v H1 s1 t1 q1 M1 => ?_) fun c m1 h1 => h1)
      cases x <;> first | exact h1.elim | skip
      rename_i c'
      unfold SimV at q1
      obtain ⟨a1, e1, rfl⟩ := q1
      cases e1
      cases hc : h C with
      | none => simp only [MP.oIsExc, hc] at h1; exact h1.elim
      | some b => exact hh ⟨b, hc⟩
end
end ML

/-! MLinkQ: the head's facts with tests of one's own; what they say of classes. -/
namespace ML
open PySem PySem.Spec PyProof.Rows L2
open MP (MV MO Mem Fr ME MA MT MS MG MI MFn Res SR)
section
variable (n : Nat) (fa : List He.Fa) (fn : List He.DefD) (tst : PySem.W.Frag → Bool)
abbrev AlE : Type := He.AlD × Bool
def obsE (g : Addr → Option Obj) : AlE := (He.obsDG n fa fn g, tst (He.frG g (He.asD g n)))
def hookE : PySem.W.Hook where
  α := AlE
  obs := fun s => obsE n fa fn tst s.heap.get?
  val := fun _ => (He.valD fn, true)
  says := fun _ h => ∃ K : PySem.W.Frag, K.In h ∧ He.SaysD fa fn K ∧ tst K = true
  of := fun _ _ e => ⟨_, He.frG_in, congrArg Prod.fst e, congrArg Prod.snd e⟩
  keeps := fun _ _ _ ⟨K, hK, c⟩ k => ⟨K, PySem.W.Frag.In.keeps hK k, c⟩
theorem obsE_eq {g : Addr → Option Obj} {s : Shared} (h : ∀ a, g a = s.heap.get? a) : obsE n fa fn tst g = (hookE n fa fn tst).obs s := by
  have e : g = s.heap.get? := funext h
  rw [e] <;> rfl
end
/-! ### tests -/
def oB (a b : Option (Option Value)) : Bool := decide (a = b)
/-- an exception class: isinstance asks its instances rightly -/
def excCB (K : PySem.W.Frag) (x : Str) : Bool :=
  oB (PySem.W.findIn K (.ref (He.ga K x)) "__getattribute__") (some (some (.builtin "BaseException.__getattribute__"))) && (oB (PySem.W.findIn K (.ref (He.ga K x)) "__getattr__") (some none) && (decide (PySem.W.subIn K (.ref (He.ga K x)) (.type "BaseException") = some true) && (PySem.W.hasDictIn K (He.ga K x) &&
  (oB (PySem.W.findIn K (.ref (He.ga K x)) "__class__") (some (some (.builtin "object.__class__"))) && (oB (PySem.W.specialIn K (.builtin "object.__class__") "__get__") (some (some (.builtin "getset_descriptor.__get__"))) && (decide (PySem.W.takesIn K (.builtin "object.__class__") = some true) && decide (PySem.W.mroIn K (He.ga K x) (.type "object") = some true)))))))
theorem excCB_ok {K : PySem.W.Frag} {x : Str} (h : excCB K x = true) : ExcC K (He.ga K x) := by
  unfold excCB oB at h
  simp only [Bool.and_eq_true, decide_eq_true_eq] at h
  obtain ⟨h1, h2, h3, h4, h5, h6, h7, h8⟩ := h
  exact ⟨h1, h2, h3, h4, h5, h6, h7, h8⟩
/-- what isinstance answers of the class c for x: an own class, a built-in one -/
def kitB1 (K : PySem.W.Frag) (c x : Str) (b : Bool) : Bool := decide (PySem.W.kitOne K (.ref (He.ga K c)) (.ref (He.ga K x)) = some b)
def kitT1 (K : PySem.W.Frag) (c : Str) (T : String) (b : Bool) : Bool := decide (PySem.W.kitOne K (.ref (He.ga K c)) (.type T) = some b)
def exmB (K : PySem.W.Frag) (c x : Str) (b : Bool) : Bool := decide (PySem.W.exmOne K (.ref (He.ga K c)) (.ref (He.ga K x)) = some b)
/-- by a list of classes' names with the answers -/
def hOf (l : List (Str × Bool)) : Str → Option Bool := fun C => l.lookup C
theorem hOf_mem : ∀ {l : List (Str × Bool)} {C : Str} {b : Bool}, hOf l C = some b → (C, b) ∈ l
  | [], C, b, h => by cases h
  | (c, k) :: r, C, b, h => by
    unfold hOf at h
    rw [List.lookup_cons] at h
    split at h
    · rename_i e
      cases h
      have : C = c := by simpa using e
      subst this
      exact List.mem_cons_self
    · exact List.mem_cons_of_mem _ (hOf_mem h)
section
variable {K : PySem.W.Frag} {mg : Str → Option Value}
theorem catch_of {x : Str} {l : List (Str × Bool)} (hx : mg x = some (.ref (He.ga K x))) (hl : ∀ p ∈ l, mg p.1 = some (.ref (He.ga K p.1))) (t : (l.all fun p => exmB K p.1 x p.2) = true) : Catch K mg x (hOf l) := by
  refine ⟨_, hx, fun C Ca b hC hm => ?_⟩
  have hp := hOf_mem hC
  have h1 := hl _ hp
  rw [hm] at h1
  cases h1
  have h2 := List.all_eq_true.mp t _ hp
  unfold exmB at h2
  exact of_decide_eq_true h2
theorem isEx_of {x : Str} {l : List (Str × Bool)} (hx : mg x = some (.ref (He.ga K x))) (hl : ∀ p ∈ l, mg p.1 = some (.ref (He.ga K p.1))) (t : (l.all fun p => excCB K p.1 && kitB1 K p.1 x p.2) = true) : IsEx K mg x (hOf l) := by
  refine ⟨.ref (He.ga K x), _, .inl hx, rfl, fun u h => h, fun C Ca b hC hm => ?_⟩
  have hp := hOf_mem hC
  have h1 := hl _ hp
  rw [hm] at h1
  cases h1
  have h2 := List.all_eq_true.mp t _ hp
  rw [Bool.and_eq_true] at h2
  refine ⟨excCB_ok h2.1, ?_⟩
  have h3 := h2.2
  unfold kitB1 at h3
  exact of_decide_eq_true h3
theorem isExT_of {x : Str} {T : String} {l : List (Str × Bool)} (hx : mg x = none) (hb : bootBuiltins x = some (.type T)) (hn : x ≠ "__name__") (hl : ∀ p ∈ l, mg p.1 = some (.ref (He.ga K p.1))) (t : (l.all fun p => excCB K p.1 && kitT1 K p.1 T p.2) = true) : IsEx K mg x (hOf l) := by
  refine ⟨.ty T, _, .inr ⟨hx, hb, hn⟩, rfl, fun u h => h, fun C Ca b hC hm => ?_⟩
  have hp := hOf_mem hC
  have h1 := hl _ hp
  rw [hm] at h1
  cases h1
  have h2 := List.all_eq_true.mp t _ hp
  rw [Bool.and_eq_true] at h2
  refine ⟨excCB_ok h2.1, ?_⟩
  have h3 := h2.2
  unfold kitT1 at h3
  exact of_decide_eq_true h3
theorem excFact_of {x : Str} (hx : mg x = some (.ref (He.ga K x))) (h : (He.Fa.exc x).ok K = true) : ExcFact K mg x := by
  obtain ⟨h1, h2, h3, h4⟩ := He.exc_ok h
  exact ⟨_, He.veBase, "ValueError", _, _, PySem.F.excBase_ValueError, hx, h1, h2, h3, h4⟩
end
end ML

/-! MLinkR: dict(x), list(x), tuple(x), sorted(x), d.get(k, x), s.join(xs). -/
namespace ML
open PySem PySem.Spec PyProof.Rows L2
open MP (MV MO Mem Fr ME MA MT MS MG MI MFn Res SR)
section
variable {X : Cx} {W : WX} {ex : ExH} {a b c e : Expr} {ma mb mc me : ME} {pos p p2 : Pos} {N : List (Str × Nat × Bool)} {G : List Str}
theorem le_get2 {apos : Pos} (hu : X.A.units + 1 < cLine) (ha : LE X W ex a ma) (hb : LE X W ex b mb) (hc : LE X W ex c mc) (m : M2 X a "get" apos b c pos := by exact ⟨rfl, rfl, rfl, rfl⟩) : LE X W ex (.Call (.Attribute a "get" apos) [b, c] [] pos) (MP.eGet2 ma mb mc) := by
  obtain ⟨t1, p1, g1⟩ := ha
  obtain ⟨t2, p2, g2⟩ := hb
  obtain ⟨t3, p3, g3⟩ := hc
  refine ⟨_, pe_dget2 hu p1 p2 p3 m, fun rho fr mem σ H Q S M h => ?_⟩
  unfold MP.eGet2 at h
  rw [Res.wp_bind] at h
  refine g1 rho fr mem σ H _ S M (Res.wp_mono h (fun x m1 h1 r1 v H1 s1 t1 q1 M1 => ?_) fun c m1 h1 => h1)
  cases x with
  | ref n =>
    simp only at h1
    cases hm : m1[n]? with
    | none => simp [hm] at h1
    | some o => cases o with
      | dct lk kvs =>
        simp only [hm] at h1
        obtain ⟨d, vs, e1, hr, rd, l1⟩ := dct_at M1 q1 hm
        refine ⟨d, e1, .inl ⟨vs, rd⟩, ?_⟩
        rw [Res.wp_bind] at h1
        refine g2 r1 fr m1 σ H1 _ (S.mono t1 s1) M1 (Res.wp_mono h1 (fun y m2 h2 r2 w H2 s2 t2 q2 M2 => ?_) fun c m2 h2 => exP.trans h2 s1 t1)
        rw [Res.wp_bind] at h2
        refine g3 r2 fr m2 σ H2 _ (S.mono (t1.trans t2) (s1.trans s2)) M2 (Res.wp_mono h2 (fun z m3 h3 r3 u H3 s3 t3 q3 M3 => ?_) fun c m3 h3 => exP.trans h3 (s1.trans s2) (t1.trans t2))
        have q1' := q1.mono (t2.trans t3) (s2.trans s3)
        cases hm3 : m3[n]? with
        | none => simp [hm3] at h3
        | some o3 => cases o3 with
          | dct lk3 kvs3 =>
            cases hk : MP.keyOf y with
            | none => simp [hm3, hk] at h3
            | some k =>
              simp only [hm3, hk, Res.wp_ok] at h3
              obtain ⟨d3, vs3, e3, hr3, rd3, l3⟩ := dct_at M3 q1' hm3
              rw [e1] at e3
              cases e3
              have ew := key_at (q2.mono t3 s3) hk
              refine ⟨valV vs3 k, .inl ⟨vs3, k, rd3, ew, rfl⟩, ?_⟩
              refine h3 r3 _ H3 (s1.trans (s2.trans s3)) ((t1.trans t2).trans t3) ?_ M3
              rcases SimK.find k l3 with ⟨h1, h2⟩ | ⟨x, v, h1, h2, h4⟩
              · rw [h1, h2]; exact q3
              · rw [h1, h2]; exact h4
          | _ => simp [hm3] at h3
      | _ => simp [hm] at h1
  | _ => exact h1.elim
theorem strs_at {K : PySem.W.Frag} {rho : Rho} {H : Hp} : ∀ {xs : List MV} {vs : List V} {ys : List Str}, SimL K ex rho H xs vs → MP.strsOf xs = some ys → vs = ys.map V.str
  | [], vs, ys, h, e => by cases e; exact h.inv_nil
  | x :: xs, vs, ys, h, e => by
    obtain ⟨v, vs', rfl, q, l⟩ := h.inv_cons
    cases x with
    | str s =>
      unfold MP.strsOf at e
      cases h2 : MP.strsOf xs with
      | none => rw [h2] at e; cases e
      | some zs =>
        rw [h2] at e
        cases e
        rw [str_at q, strs_at l h2]
        rfl
    | _ => cases e
theorem le_join {apos : Pos} (ha : LE X W ex a ma) (hb : LE X W ex b mb) (hs : starEach [b] X.env = [(false, eval b X.env)] := by rfl) (hbase : attributeBase a "join" X.env (eval a X.env) = eval a X.env := by rfl) (hline : (apos.endLine == pos.line) = true := by rfl) : LE X W ex (.Call (.Attribute a "join" apos) [b] [] pos) (MP.eJoin ma mb) := by
  obtain ⟨t1, p1, g1⟩ := ha
  obtain ⟨t2, p2, g2⟩ := hb
  refine ⟨_, pe_join p1 p2 hs hbase hline, fun rho fr mem σ H Q S M h => ?_⟩
  unfold MP.eJoin at h
  rw [Res.wp_bind] at h
  refine g1 rho fr mem σ H _ S M (Res.wp_mono h (fun x m1 h1 r1 v H1 s1 t1 q1 M1 => ?_) fun c m1 h1 => h1)
  cases x with
  | str z =>
    simp only at h1
    refine ⟨⟨z, str_at q1⟩, ?_⟩
    rw [Res.wp_bind] at h1
    refine g2 r1 fr m1 σ H1 _ (S.mono t1 s1) M1 (Res.wp_mono h1 (fun y m2 h2 r2 w H2 s2 t2 q2 M2 => ?_) fun c m2 h2 => exP.trans h2 s1 t1)
    unfold MP.oJoin at h2
    cases e1 : MP.seqOf y m2 with
    | none => simp [e1] at h2
    | some xs =>
      cases e2 : MP.strsOf xs with
      | none => simp [e1, e2] at h2
      | some ys =>
        simp only [e1, e2, Option.bind_some] at h2
        split at h2
        · rename_i hc
          have fin : Q (.str (PySem.Txt.join z ys)) H2 := by
            have e : PySem.Txt.join z ys = Str.join z ys := StrLaws.glued_eq_join z ys
            rw [e]
            exact h2 r2 _ H2 (s1.trans s2) (t1.trans t2) (SimV.str _) M2
          cases y with
          | tup ts =>
            cases e1
            obtain ⟨p, vs, rfl, sq, l⟩ := tup_at q2
            have ev := strs_at l e2
            subst ev
            exact ⟨z, p, ys, str_at q1, rfl, .inr sq, hc, fin⟩
          | ref n =>
            cases hm : m2[n]? with
            | none => simp [MP.seqOf, hm] at e1
            | some o => cases o with
              | lst zs =>
                simp only [MP.seqOf, hm, Option.some.injEq] at e1
                subst e1
                obtain ⟨p, vs, rfl, _, sq, l⟩ := lst_at M2 q2 hm
                have ev := strs_at l e2
                subst ev
                exact ⟨z, p, ys, str_at q1, rfl, .inl (SqL.of sq), hc, fin⟩
              | _ => simp [MP.seqOf, hm] at e1
          | _ => cases e1
        · exact h2.elim
  | _ => exact h1.elim
/-! dict(x) -/
theorem mergeD_at {K : PySem.W.Frag} {rho : Rho} {H : Hp} : ∀ {q : List (Key × MV)} {kvs : List (Key × V)} {acc : List (Key × MV)} {acc' : List (Key × V)}, SimP K ex rho H acc acc' → SimP K ex rho H q kvs → SimP K ex rho H (MP.mergeD acc q) (mergeK acc' kvs)
  | _, _, acc, acc', h, .nil => h
  | (k, x) :: q, (k', v) :: kvs, acc, acc', h, .cons r t => by
    have e : k = k' := r.1
    subst e
    exact mergeD_at (acc := MP.setK acc k x) (acc' := putK acc' k v) (SimK.put k h r.2) t
theorem pairs_at {K : PySem.W.Frag} {rho : Rho} {H : Hp} : ∀ {xs : List MV} {vs : List V} {q : List (Key × MV)}, SimL K ex rho H xs vs → MP.pairsOf xs = some q →
    ∃ (ps : List Addr) (kvs : List (Key × V)), vs = ps.map V.ref ∧ Paired (fun p kv => SqT K H p [kV kv.1, kv.2]) ps kvs ∧ SimP K ex rho H q kvs
  | [], vs, q, h, e => by cases e; exact ⟨[], [], h.inv_nil, .nil, .nil⟩
  | x :: xs, vs, q, h, e => by
    obtain ⟨v, vs', rfl, q1, l⟩ := h.inv_cons
    cases x with
    | tup ts =>
      match ts, e, q1 with
      | [k, y], e, q1 =>
        unfold MP.pairsOf at e
        cases e1 : MP.keyOf k with
        | none => simp [e1] at e
        | some c =>
          cases e2 : MP.pairsOf xs with
          | none => simp [e1, e2] at e
          | some q' =>
            simp only [e1, e2, Option.some.injEq] at e
            subst e
            obtain ⟨ps, kvs, rfl, pr, sp⟩ := pairs_at l e2
            obtain ⟨p, us, rfl, sq, lu⟩ := tup_at q1
            obtain ⟨u1, us1, rfl, qk, lu1⟩ := lu.inv_cons
            obtain ⟨u2, us2, rfl, qv, lu2⟩ := lu1.inv_cons
            have e3 := lu2.inv_nil
            subst e3
            have e4 := key_at qk e1
            subst e4
            exact ⟨p :: ps, (c, u2) :: kvs, rfl, .cons sq pr, .cons ⟨rfl, qv⟩ sp⟩
      | [], e, _ => cases e
      | [_], e, _ => cases e
      | _ :: _ :: _ :: _, e, _ => cases e
    | _ => cases e
def rDictM (X : Cx) : List V → Hp → VK → Prop := fun xs H Q => (∃ (a : Addr) (ps : List Addr) (kvs : List (Key × V)), xs = [.ref a] ∧ SqL X.K H a (ps.map V.ref) ∧ Paired (fun p kv => SqT X.K H p [kV kv.1, kv.2]) ps kvs ∧ ∀ p, H p = none → Q (.ref p) (upd H p (.dK (mergeK [] kvs)))) ∨
  (∃ (a : Addr) (kvs : List (Key × V)), xs = [.ref a] ∧ Rd H a (.dK kvs) ∧ ∀ p, H p = none → Q (.ref p) (upd H p (.dK kvs))) ∨
  (∃ (a : Addr) (ps : List Addr) (kvs : List (Key × V)), xs = [.ref a] ∧ SqT X.K H a (ps.map V.ref) ∧ Pln X.K H a ∧ Paired (fun p kv => SqT X.K H p [kV kv.1, kv.2]) ps kvs ∧ ∀ p, H p = none → Q (.ref p) (upd H p (.dK (mergeK [] kvs))))
theorem call_dictM (hc : X.calm = true) : CallR X (.type "dict") (rDictM X) := (call_dictP hc).or (call_dictD.or (call_dictT hc))
theorem dct_new {K : PySem.W.Frag} {mg : Str → Option Value} {rho : Rho} {H : Hp} {Q : V → Hp → Prop} {m : Mem} {kvs : List (Key × MV)} {vs : List (Key × V)} (h : (MP.new (.dct false kvs) m).wp (okP K mg none rho H Q) (fun _ _ => False)) (M : SimM K mg rho H m) (q : SimP K none rho H kvs vs) :
    ∀ p, H p = none → Q (.ref p) (upd H p (.dK vs)) := fun p hp => okP.new h M hp rfl ⟨vs, upd_same, q.mono (Stay.new hp) (Sub.snoc _ _)⟩
theorem lst_new {K : PySem.W.Frag} {mg : Str → Option Value} {rho : Rho} {H : Hp} {Q : V → Hp → Prop} {m : Mem} {xs : List MV} {vs : List V} (h : (MP.new (.lst xs) m).wp (okP K mg none rho H Q) (fun _ _ => False)) (M : SimM K mg rho H m) (q : SimL K none rho H xs vs) :
    ∀ p, H p = none → Q (.ref p) (upd H p (.lst vs)) := fun p hp => okP.new h M hp rfl ⟨vs, upd_same, q.mono (Stay.new hp) (Sub.snoc _ _)⟩
def GoodR1n (X : Cx) (r : V → Hp → (V → Hp → Prop) → Prop) (f : MV → Mem → Res MV) : Prop := ∀ (rho : Rho) (mem : Mem) (H : Hp) (x : MV) (v : V) (Q : V → Hp → Prop) (E : Str → Mem → Prop),
  SimV X.K none rho H x v → SimM X.K X.mg rho H mem → (f x mem).wp (okP X.K X.mg none rho H Q) (fun _ _ => False) → r v H Q
theorem GoodE.bind1n {ta : TE} {ma : ME} {r : V → Hp → (V → Hp → Prop) → Prop} {f : MV → Mem → Res MV} (ha : GoodE X W none ta ma) (hr : GoodR1n X r f) (hn : NoEx1 f) : GoodE X W none (tUn r ta) (MP.e1 f ma) :=
  fun rho fr mem σ H Q S M h => by
    unfold MP.e1 at h
    rw [Res.wp_bind] at h
    refine ha rho fr mem σ H _ S M (Res.wp_mono h (fun x m1 h1 rho1 v H1 s1 t1 q1 M1 => ?_) fun c m1 h1 => h1)
    exact hr rho1 m1 H1 x v Q (fun _ _ => False) q1 M1 (wp_noex (Res.wp_mono h1 (fun z m3 h3 => okP.trans h3 s1 t1) fun _ _ h => h) (hn x m1))
theorem le_b1n {id : String} {x : Str} {r : List V → Hp → VK → Prop} {f : MV → Mem → Res MV} (hc : CallR X (.builtin id) r) (g : GoodR1n X (fun v H Q => r [v] H Q) f) (hn : NoEx1 f) (nm : Nm X N G) (j : Nat) (hm : X.mg x = none) (hv : bootBuiltins x = some (.builtin id)) (ha : LE X W none a ma)
    (hx : G[j]? = some x := by rfl) (he : starEach [a] X.env = (false, eval a X.env) :: starEach [] X.env := by rfl) (hpl : (backTo pos (starEach [] X.env)).any (·.1) = false := by rfl) : LE X W none (.Call (.Name x p) [a] [] pos) (MP.e1 f ma) := by
  obtain ⟨t1, p1, g1⟩ := ha
  refine ⟨_, pe_callB hc (nm.gl j x hx).1 hm hv (pa_cons p1 pa_nil he) (nm.gl j x hx).2.2 (nm.gl j x hx).2.1 he hpl, fun rho fr mem σ H Q S M h => ?_⟩
  exact (GoodE.bind1n (r := fun v H Q => r [v] H Q) g1 g hn) rho fr mem σ H Q S M h
theorem le_t1n {T : String} {x : Str} {r : List V → Hp → VK → Prop} {f : MV → Mem → Res MV} (hc : CallR X (.type T) r) (g : GoodR1n X (fun v H Q => r [v] H Q) f) (hn : NoEx1 f) (nm : Nm X N G) (j : Nat) (hm : X.mg x = none) (hv : bootBuiltins x = some (.type T)) (ha : LE X W none a ma)
    (hx : G[j]? = some x := by rfl) (he : starEach [a] X.env = (false, eval a X.env) :: starEach [] X.env := by rfl) (hpl : (backTo pos (starEach [] X.env)).any (·.1) = false := by rfl) : LE X W none (.Call (.Name x p) [a] [] pos) (MP.e1 f ma) := by
  obtain ⟨t1, p1, g1⟩ := ha
  refine ⟨_, pe_callTy hc (nm.gl j x hx).1 hm hv (pa_cons p1 pa_nil he) (nm.gl j x hx).2.2 (nm.gl j x hx).2.1 he hpl, fun rho fr mem σ H Q S M h => ?_⟩
  exact (GoodE.bind1n (r := fun v H Q => r [v] H Q) g1 g hn) rho fr mem σ H Q S M h
theorem good_dict : GoodR1n X (fun v H Q => rDictM X [v] H Q) MP.oDict := fun rho mem H x v Q E q1 M q => by
  cases x with
  | ref n =>
    cases hm : mem[n]? with
    | none => simp [MP.oDict, hm] at q
    | some o => cases o with
      | lst xs =>
        cases e2 : MP.pairsOf xs with
        | none => simp [MP.oDict, hm, e2] at q
        | some kv =>
          simp only [MP.oDict, hm, e2] at q
          obtain ⟨p, vs, rfl, _, s1, l1⟩ := lst_at M q1 hm
          obtain ⟨ps, kvs, rfl, pr, sp⟩ := pairs_at l1 e2
          exact .inl ⟨p, ps, kvs, rfl, SqL.of s1, pr, dct_new q M (mergeD_at .nil sp)⟩
      | dct lk kvs =>
        simp only [MP.oDict, hm] at q
        obtain ⟨p, vs, rfl, _, s1, l1⟩ := dct_at M q1 hm
        exact .inr (.inl ⟨p, vs, rfl, s1, dct_new q M l1⟩)
      | _ => simp [MP.oDict, hm] at q
  | tup xs =>
    cases e2 : MP.pairsOf xs with
    | none => simp [MP.oDict, e2] at q
    | some kv =>
      simp only [MP.oDict, e2] at q
      obtain ⟨p, vs, rfl, s1, hpl, l1⟩ := tup_pln q1 (by rw [e2]; simp)
      obtain ⟨ps, kvs, rfl, pr, sp⟩ := pairs_at l1 e2
      exact .inr (.inr ⟨p, ps, kvs, rfl, s1, hpl, pr, dct_new q M (mergeD_at .nil sp)⟩)
  | _ => exact q.elim
theorem nx_dict : NoEx1 MP.oDict := fun x m c m' h => by
  unfold MP.oDict MP.new at h
  repeat' split at h
  all_goals cases h
/-! list(x), tuple(x) -/
theorem SimP.keyL {K : PySem.W.Frag} {rho : Rho} {H : Hp} : ∀ {kvs : List (Key × MV)} {vs : List (Key × V)}, SimP K ex rho H kvs vs → SimL K ex rho H (kvs.map fun kv => MP.ofKey kv.1) (vs.map fun kv => kV kv.1)
  | _, _, .nil => SimL.nil
  | p :: ps, z :: zs, .cons r t => by
    rw [List.map_cons, List.map_cons, r.1]
    exact SimL.cons (SimV.key _) (SimP.keyL t)
def rListM (X : Cx) : List V → Hp → VK → Prop := fun xs H Q => (∃ p ys, xs = [.ref p] ∧ (SqL X.K H p ys ∨ SqT X.K H p ys) ∧ ∀ l, H l = none → Q (.ref l) (upd H l (.lst ys))) ∨
  (∃ (a : Addr) (kvs : List (Key × V)), xs = [.ref a] ∧ Rd H a (.dK kvs) ∧ ∀ p, H p = none → Q (.ref p) (upd H p (.lst (kvs.map fun kv => kV kv.1))))
theorem call_listM (hc : X.calm = true) : CallR X (.type "list") (rListM X) := call_list_of.or (call_listD hc)
theorem good_list : GoodR1n X (fun v H Q => rListM X [v] H Q) MP.oListOf := fun rho mem H x v Q E q1 M q => by
  cases x with
  | tup xs =>
    obtain ⟨p, vs, rfl, s1, l1⟩ := tup_at q1
    exact .inl ⟨p, vs, rfl, .inr s1, lst_new q M l1⟩
  | ref n =>
    cases hm : mem[n]? with
    | none => simp [MP.oListOf, hm] at q
    | some o => cases o with
      | lst xs =>
        simp only [MP.oListOf, hm] at q
        obtain ⟨p, vs, rfl, _, s1, l1⟩ := lst_at M q1 hm
        exact .inl ⟨p, vs, rfl, .inl (SqL.of s1), lst_new q M l1⟩
      | dct lk kvs =>
        simp only [MP.oListOf, hm] at q
        obtain ⟨p, vs, rfl, _, s1, l1⟩ := dct_at M q1 hm
        exact .inr ⟨p, vs, rfl, s1, lst_new q M l1.keyL⟩
      | _ => simp [MP.oListOf, hm] at q
  | _ => exact q.elim
theorem nx_list : NoEx1 MP.oListOf := fun x m c m' h => by
  unfold MP.oListOf MP.new at h
  repeat' split at h
  all_goals cases h
theorem good_tuple : GoodR1n X (fun v H Q => ∃ p ys, [v] = [.ref p] ∧ ((SqL X.K H p ys ∧ NewT H ys Q) ∨ (SqT X.K H p ys ∧ Q (.ref p) H))) MP.oTupOf := fun rho mem H x v Q E q1 M q => by
  cases x with
  | tup xs =>
    obtain ⟨p, vs, e, s1, l1⟩ := tup_at q1
    exact ⟨p, vs, by rw [e], .inr ⟨s1, by rw [← e]; exact okP.at q q1 M⟩⟩
  | ref n =>
    cases hm : mem[n]? with
    | none => simp [MP.oTupOf, hm] at q
    | some o => cases o with
      | lst xs =>
        simp only [MP.oTupOf, hm] at q
        obtain ⟨p, vs, rfl, _, s1, l1⟩ := lst_at M q1 hm
        exact ⟨p, vs, rfl, .inl ⟨SqL.of s1, fun l o hl ho => okP.newT q M hl ho l1⟩⟩
      | _ => simp [MP.oTupOf, hm] at q
  | _ => exact q.elim
theorem nx_tuple : NoEx1 MP.oTupOf := fun x m c m' h => by
  unfold MP.oTupOf at h
  repeat' split at h
  all_goals cases h
/-! sorted(x) -/
theorem ltCps_le (a b : Str) : (!ltCps b.cps.toList a.cps.toList) = MP.leS a b := by
  rw [PyProof.Rows.ltCps_eq]; rfl
theorem rising_pw : ∀ (l : List Str) (p : Str), risingS p l = true → (p :: l).Pairwise (fun a b => MP.leS a b = true)
  | [], p, _ => List.pairwise_singleton _ _
  | x :: r, p, h => by
    unfold risingS at h
    rw [Bool.and_eq_true, ltCps_le] at h
    have h2 := rising_pw r x h.2
    refine List.pairwise_cons.mpr ⟨fun z hz => ?_, h2⟩
    rcases List.mem_cons.mp hz with rfl | hz
    · exact h.1
    · exact MP.leS_trans h.1 ((List.pairwise_cons.mp h2).1 z hz)
theorem sorted_is {ys ks : List Str} (p : ys.Perm ks) (h : sortedS ys = true) : ys = MP.sortS ks := by
  refine MP.sortS_of p ?_
  cases ys with
  | nil => exact List.Pairwise.nil
  | cons x r => exact rising_pw r x h
theorem SimL.strs {K : PySem.W.Frag} {rho : Rho} {H : Hp} : ∀ (ys : List Str), SimL K ex rho H (ys.map MV.str) (ys.map V.str)
  | [] => SimL.nil
  | y :: ys => SimL.cons (SimV.str y) (SimL.strs ys)
theorem keysS_at {K : PySem.W.Frag} {rho : Rho} {H : Hp} : ∀ {kvs : List (Key × MV)} {vs : List (Key × V)} {ks : List Str}, SimP K ex rho H kvs vs → MP.keysS kvs = some ks → vs.map (·.1) = ks.map Sum.inr
  | _, _, ks, .nil, e => by cases e; rfl
  | (k, x) :: ps, (k', v) :: zs, ks, .cons r t, e => by
    have e0 : k = k' := r.1
    subst e0
    cases k with
    | inl i => cases e
    | inr s =>
      unfold MP.keysS at e
      cases h2 : MP.keysS ps with
      | none => rw [h2] at e; cases e
      | some q =>
        rw [h2] at e
        cases e
        rw [List.map_cons, List.map_cons, keysS_at t h2]
def rSortM (X : Cx) : List V → Hp → VK → Prop := fun xs H Q => rSortedS X.K xs H Q ∨ (∃ (a : Addr) (kvs : List (Key × V)) (ks : List Str), xs = [.ref a] ∧ Rd H a (.dK kvs) ∧ kvs.map (·.1) = ks.map Sum.inr ∧ ks.length < 64 ∧
    ∀ ys p, ys.Perm ks → sortedS ys = true → H p = none → Q (.ref p) (upd H p (.lst (ys.map V.str))))
theorem call_sortM (hc : X.calm = true) : CallR X (.builtin "sorted") (rSortM X) := CallR.or cr_sortedS (call_sortedD hc)
theorem good_sorted : GoodR1n X (fun v H Q => rSortM X [v] H Q) MP.oSorted := fun rho mem H x v Q E q1 M q => by
  cases x with
  | ref n =>
    cases hm : mem[n]? with
    | none => simp [MP.oSorted, hm] at q
    | some o => cases o with
      | lst xs =>
        cases e2 : MP.strsOf xs with
        | none => simp [MP.oSorted, hm, e2] at q
        | some ks =>
          simp only [MP.oSorted, hm, e2] at q
          split at q
          · rename_i hc
            obtain ⟨p, vs, rfl, _, s1, l1⟩ := lst_at M q1 hm
            have ev := strs_at l1 e2
            subst ev
            refine .inl ⟨p, ks, rfl, SqL.of s1, hc, fun ys p' pe se hn => ?_⟩
            rw [sorted_is pe se]
            exact lst_new q M (SimL.strs _) p' hn
          · exact q.elim
      | dct lk kvs =>
        cases e2 : MP.keysS kvs with
        | none => simp [MP.oSorted, hm, e2] at q
        | some ks =>
          simp only [MP.oSorted, hm, e2] at q
          split at q
          · rename_i hc
            obtain ⟨p, vs, rfl, _, s1, l1⟩ := dct_at M q1 hm
            refine .inr ⟨p, vs, ks, rfl, s1, keysS_at l1 e2, hc, fun ys p' pe se hn => ?_⟩
            rw [sorted_is pe se]
            exact lst_new q M (SimL.strs _) p' hn
          · exact q.elim
      | _ => simp [MP.oSorted, hm] at q
  | _ => exact q.elim
theorem nx_sorted : NoEx1 MP.oSorted := fun x m c m' h => by
  unfold MP.oSorted MP.new at h
  repeat' split at h
  all_goals cases h
/-! the heap grows -/
theorem SimO.grow {K : PySem.W.Frag} {mg : Str → Option Value} {rho : Rho} {H H' : Hp} (k : ∀ b o, H b = some o → H' b = some o) {rho' : Rho} (hr : Sub rho rho') {a : Addr} {o : MO} (h : SimO K mg rho H a o) : SimO K mg rho' H' a o := h.mono ⟨fun a vs e => k a _ e, fun a o u e => k a _ e⟩ hr fun u e => k a u e
theorem SimM.pushK {K : PySem.W.Frag} {mg : Str → Option Value} {rho : Rho} {H H' : Hp} {m : Mem} (S : SimM K mg rho H m) {p : Addr} {o : MO} (k : ∀ b o, H b = some o → H' b = some o) (h : H p = none) (hn : isRol o = false) (q : SimO K mg (rho ++ [p]) H' p o) : SimM K mg (rho ++ [p]) H' (m ++ [o]) := by
  have hlen := S.len
  have old : ∀ i, i < m.length → (rho ++ [p])[i]? = rho[i]? := fun i hi => by rw [List.getElem?_append_left (by omega)]
  have oldm : ∀ i, i < m.length → (m ++ [o])[i]? = m[i]? := fun i hi => by rw [List.getElem?_append_left hi]
  have newr : (rho ++ [p])[m.length]? = some p := by rw [← hlen]; simp
  have newm : (m ++ [o])[m.length]? = some o := by simp
  have lt : ∀ {i : Nat} {x : MO}, (m ++ [o])[i]? = some x → i < m.length ∨ i = m.length := fun {i x} e => by
    have := (List.getElem?_eq_some_iff.mp e).1
    rw [List.length_append, List.length_singleton] at this
    omega
  have notp : ∀ {i : Nat} {x : MO}, i < m.length → m[i]? = some x → isRol x = false → rho[i]? ≠ some p := fun {i x} hi e hx z => by
    obtain ⟨u', hu⟩ := (S.get z e).there hx
    rw [h] at hu; cases hu
  refine ⟨by rw [List.length_append, List.length_append, hlen]; rfl, fun i j a x y h1 h2 h3 h4 h5 h6 => ?_, fun n x e => ?_⟩
  · rcases lt h3 with hi | hi
    · rw [old i hi] at h1
      rw [oldm i hi] at h3
      rcases lt h4 with hj | hj
      · rw [old j hj] at h2
        rw [oldm j hj] at h4
        exact S.inj i j a x y h1 h2 h3 h4 h5 h6
      · subst hj
        rw [newr] at h2; cases h2
        exact absurd h1 (notp hi h3 h5)
    · subst hi
      rw [newr] at h1; cases h1
      rcases lt h4 with hj | hj
      · rw [old j hj] at h2
        rw [oldm j hj] at h4
        exact absurd h2 (notp hj h4 h6)
      · exact hj.symm
  · rcases lt e with hi | hi
    · rw [oldm n hi] at e
      obtain ⟨a, h1, h2⟩ := S.at_ n x e
      exact ⟨a, by rw [old n hi]; exact h1, h2.grow k (Sub.snoc _ _)⟩
    · subst hi
      rw [newm] at e; cases e
      exact ⟨p, newr, q⟩
/-! list(d.items()) -/
theorem items_sim {K : PySem.W.Frag} {rho : Rho} {H H' : Hp} (st : Stay H H') : ∀ {kvs : List (Key × MV)} {vs : List (Key × V)} {ts : List Addr}, SimP K none rho H kvs vs → Paired (fun (t : Addr) (q : Key × V) => H' t = some (.tup [kV q.1, q.2])) ts vs →
    SimL K none rho H' (kvs.map fun kv => .tup [MP.ofKey kv.1, kv.2]) (ts.map V.ref)
  | _, _, _, .nil, .nil => SimL.nil
  | (k, x) :: ps, (k', v) :: zs, t :: ts, .cons r l, .cons e l2 => by
    have e0 : k = k' := r.1
    subst e0
    refine SimL.cons ?_ (items_sim st l l2)
    unfold SimV
    exact ⟨t, _, rfl, SqT.of e, no_pairs_key, SimL.cons (SimV.key k) (SimL.cons (r.2.mono st (Sub.refl _)) SimL.nil)⟩
theorem le_listItems {cpos apos : Pos} (nm : Nm X N G) (j : Nat) (hc : X.calm = true) (hm : X.mg "list" = none) (ha : LE X W none a ma) (hx : G[j]? = some "list" := by rfl) (hbase : attributeBase a "items" X.env (eval a X.env) = eval a X.env := by rfl) (hline : (apos.endLine == cpos.line) = true := by rfl)
    (hs : starEach [.Call (.Attribute a "items" apos) [] [] cpos] X.env = (false, eval (.Call (.Attribute a "items" apos) [] [] cpos) X.env) :: starEach [] X.env := by rfl) :
    LE X W none (.Call (.Name "list" p) [.Call (.Attribute a "items" apos) [] [] cpos] [] pos) (MP.e1 MP.oListItems ma) := by
  obtain ⟨t1, p1, g1⟩ := ha
  refine ⟨_, LiI.pe_listItems hc p1 (nm.gl j _ hx).1 hm boot_list hbase hline hs, fun rho fr mem σ H Q S M h => ?_⟩
  unfold MP.e1 at h
  rw [Res.wp_bind] at h
  refine g1 rho fr mem σ H _ S M (Res.wp_mono h (fun x m1 h1 r1 v H1 s1 t1 q1 M1 => ?_) fun c m1 h1 => h1)
  cases x with
  | ref n =>
    cases hm : m1[n]? with
    | none => simp [MP.oListItems, hm] at h1
    | some o => cases o with
      | dct lk kvs =>
        cases lk with
        | true => simp [MP.oListItems, hm] at h1
        | false =>
          simp only [MP.oListItems, hm] at h1
          obtain ⟨d, vs, rfl, hr, s2, l1⟩ := dct0_at M1 q1 hm
          refine ⟨d, vs, rfl, s2, fun H' p' ts keep hp hts hnp hl pr => ?_⟩
          have st : Stay H1 H' := ⟨fun a vs e => keep a _ e, fun a o u e => keep a _ e⟩
          refine h1 (r1 ++ [p']) _ H' (s1.trans (Sub.snoc _ _)) (t1.trans st) ?_ ?_
          · unfold SimV
            exact ⟨p', by rw [← M1.len]; simp, rfl⟩
          · exact M1.pushK keep hp rfl ⟨_, hl, (items_sim st l1 pr).mono (Stay.refl _) (Sub.snoc _ _)⟩
      | _ => simp [MP.oListItems, hm] at h1
  | _ => exact h1.elim
end
end ML

/-! MLinkS: constants of the module (ints, texts, truths, tuples of such) by a test of the written part. -/
namespace ML
open PySem PySem.Spec PyProof.Rows L2
open MP (MV MO Mem Fr ME MA MT MS MG MI MFn Res SR)
mutual
def conB (K : PySem.W.Frag) : MV → Value → Bool
  | .non, u => match u with
    | .none => true
    | _ => false
  | .bl b, u => match u with
    | .bool c => decide (b = c)
    | _ => false
  | .int i, u => match u with
    | .int j _ => decide (i = j)
    | _ => false
  | .str s, u => match u with
    | .str z _ => decide (s = z)
    | _ => false
  | .tup xs, u => match u with
    | .ref a => match K.lookup a with
      | some ⟨cls, none, .seq its _, _⟩ => decide (cls = .type "tuple") && decide (its.size ≤ sizeLine) && conL K xs its.toList
      | _ => false
    | _ => false
  | .ref _, _ => false
  | .exn _, _ => false
def conL (K : PySem.W.Frag) : List MV → List Value → Bool
  | [], us => us.isEmpty
  | x :: xs, us => match us with
    | [] => false
    | u :: r => conB K x u && conL K xs r
end
mutual
theorem conB_ok {K : PySem.W.Frag} : ∀ {c : MV} {u : Value}, conB K c u = true → ∃ v, RelV v u ∧ ∀ rho H, SimV K none rho H c v
  | .non, u, h => by
    unfold conB at h
    cases u <;> first | (cases h; done) | exact ⟨.non, rfl, fun _ _ => by unfold SimV; rfl⟩
  | .bl b, u, h => by
    unfold conB at h
    cases u <;> first | (cases h; done) | exact ⟨.bl b, by rw [of_decide_eq_true h] <;> rfl, fun _ _ => by unfold SimV; rfl⟩
  | .int i, u, h => by
    unfold conB at h
    cases u <;> first | (cases h; done) | exact ⟨.int i, ⟨_, by rw [of_decide_eq_true h]⟩, fun _ _ => by unfold SimV; rfl⟩
  | .str s, u, h => by
    unfold conB at h
    cases u <;> first | (cases h; done) | exact ⟨.str s, ⟨_, by rw [of_decide_eq_true h]⟩, fun _ _ => by unfold SimV; rfl⟩
  | .tup xs, u, h => by
    unfold conB at h
    cases u with
    | ref a =>
      simp only at h
      cases e : K.lookup a with
      | none => rw [e] at h; cases h
      | some o =>
        obtain ⟨cls, d, dat, sl⟩ := o
        rw [e] at h
        cases d with
        | some _ => cases dat <;> cases h
        | none => cases dat with
          | seq its n =>
            simp only [Bool.and_eq_true, decide_eq_true_eq] at h
            obtain ⟨⟨h1, h2⟩, h3⟩ := h
            obtain ⟨vs, h4, h5⟩ := conL_ok h3
            refine ⟨.ref a, rfl, fun rho H => ?_⟩
            unfold SimV
            exact ⟨a, vs, rfl, .inr ⟨_, its, n, e, h1, rfl, h2, h4⟩, fun _ => .inr ⟨_, e, rfl⟩, h5 rho H⟩
          | _ => cases h
    | _ => cases h
  | .ref _, _, h => by unfold conB at h; cases h
  | .exn _, _, h => by unfold conB at h; cases h
theorem conL_ok {K : PySem.W.Frag} : ∀ {cs : List MV} {us : List Value}, conL K cs us = true → ∃ vs, Vals vs us ∧ ∀ rho H, SimL K none rho H cs vs
  | [], us, h => by
    unfold conL at h
    have : us = [] := by simpa using h
    subst this
    exact ⟨[], .nil, fun _ _ => SimL.nil⟩
  | x :: xs, us, h => by
    unfold conL at h
    cases us with
    | nil => cases h
    | cons u r =>
      simp only [Bool.and_eq_true] at h
      obtain ⟨v, h1, h2⟩ := conB_ok h.1
      obtain ⟨vs, h3, h4⟩ := conL_ok h.2
      exact ⟨v :: vs, .cons h1 h3, fun rho H => SimL.cons (h2 rho H) (h4 rho H)⟩
end
def conT (K : PySem.W.Frag) (x : Str) (c : MV) : Bool := match PySem.W.nsIn K mainGlobals x with
  | some (some u) => conB K c u
  | _ => false
theorem gconst_of {K : PySem.W.Frag} {h : Heap} {mg : Str → Option Value} (X : K.In h) (G : h.Ns mainGlobals mg) {x : Str} {c : MV} (t : conT K x c = true) : GConst K mg x c := by
  unfold conT at t
  cases e : PySem.W.nsIn K mainGlobals x with
  | none => rw [e] at t; cases t
  | some o =>
    rw [e] at t
    cases o with
    | none => cases t
    | some u =>
      obtain ⟨v, h1, h2⟩ := conB_ok t
      exact ⟨u, v, PySem.W.mg_of X G e, h1, h2⟩
end ML

/-! MLinkT: pop, clear, extend, xs[::-1], max, min. -/
namespace ML
open PySem PySem.Spec PyProof.Rows L2
open MP (MV MO Mem Fr ME MA MT MS MG MI MFn Res SR)
section
variable {X : Cx} {W : WX} {a b c e : Expr} {ma mb mc me : ME} {pos p p2 : Pos} {N : List (Str × Nat × Bool)} {G : List Str}
theorem seqIx_eq (n : Nat) (i : Int) : seqIndex? i n = MP.atN n i := by
  unfold seqIndex? MP.atN
  by_cases h : i < 0
  · have h0 : ¬ (0 ≤ i) := by omega
    simp only [h, if_true, h0, if_false]
    by_cases h1 : 0 ≤ i + (n : Int)
    · have h2 : i + (n : Int) < n := by omega
      simp [h1, h2]
    · simp [h1]
  · have h0 : 0 ≤ i := by omega
    simp only [h, if_false, h0, if_true]
    by_cases h1 : i < (n : Int) <;> simp [h1, h0]
theorem SimL.erase {K : PySem.W.Frag} {rho : Rho} {H : Hp} {ex : ExH} : ∀ {xs : List MV} {vs : List V} (k : Nat), SimL K ex rho H xs vs → SimL K ex rho H (xs.eraseIdx k) (vs.eraseIdx k)
  | [], vs, k, h => by rw [h.inv_nil]; exact SimL.nil
  | x :: xs, vs, k, h => by
    obtain ⟨v, vs', rfl, q, l⟩ := h.inv_cons
    cases k with
    | zero => exact l
    | succ k => exact SimL.cons q (SimL.erase k l)
theorem SimL.dropLast {K : PySem.W.Frag} {rho : Rho} {H : Hp} {ex : ExH} {xs : List MV} {vs : List V} (h : SimL K ex rho H xs vs) : SimL K ex rho H xs.dropLast vs.dropLast := by
  rw [List.dropLast_eq_take, List.dropLast_eq_take, h.length]
  exact h.take _
theorem le_pop1 {apos : Pos} (ha : LE X W none a ma) (hb : LE X W none b mb) (m : M1 X a "pop" apos b pos := by exact ⟨rfl, rfl, rfl, rfl⟩) (he : starEach [b] X.env = (false, eval b X.env) :: starEach [] X.env := by rfl)
    (hplain : (backTo pos (starEach [] X.env)).any (·.1) = false := by rfl) : LE X W none (.Call (.Attribute a "pop" apos) [b] [] pos) (MP.ePop1 ma mb) := by
  obtain ⟨t1, p1, g1⟩ := ha
  obtain ⟨t2, p2, g2⟩ := hb
  have pl := pe_bm PySem.F.plainAttrs_list PySem.F.slot_list_pop PySem.F.type_list_pop mt_popAt p1 (pa_cons p2 pa_nil he) m.base m.few m.line he hplain
  have pd := pe_dpop1 p1 p2 m
  refine ⟨_, PE.or pl pd, fun rho fr mem σ H Q S M h => ?_⟩
  unfold MP.ePop1 at h
  rw [Res.wp_bind] at h
  -- what the receiver is
  have isL : (∃ n xs m1, ma fr mem = .ok (.ref n) m1 ∧ m1[n]? = some (.lst xs)) ∨ ¬ (∃ n xs m1, ma fr mem = .ok (.ref n) m1 ∧ m1[n]? = some (.lst xs)) := Classical.em _
  rcases isL with ⟨n0, xs0, m0, e0, e1⟩ | hno
  · left
    refine g1 rho fr mem σ H _ S M ?_
    rw [e0] at h ⊢
    simp only [Res.wp_ok, e1] at h ⊢
    intro r1 v H1 s1 t1 q1 M1
    obtain ⟨d, vs, e2, hr, e3, l1⟩ := lst_at M1 q1 e1
    refine ⟨by rw [e2]; exact .inl ⟨rfl, vs, SqL.of e3⟩, ?_⟩
    rw [Res.wp_bind] at h
    refine g2 r1 fr m0 σ H1 _ (S.mono t1 s1) M1 (Res.wp_mono h (fun y m2 h2 r2 w H2 s2 t2 q2 M2 => ?_) fun c m2 h2 => exP.trans h2 s1 t1)
    cases y with
    | int i =>
      cases hm2 : m2[n0]? with
      | none => simp [hm2] at h2
      | some o2 => cases o2 with
        | lst ys =>
          simp only [hm2] at h2
          cases ek : MP.atN ys.length i with
          | none => simp [ek] at h2
          | some k =>
            cases ey : ys[k]? with
            | none => simp [ek, ey] at h2
            | some y =>
              simp only [ek, ey] at h2
              split at h2
              · rename_i hc
                have hr2 := s2 n0 d hr
                obtain ⟨us, e4, l4⟩ := M2.get hr2 hm2
                obtain ⟨u, e5, q5⟩ := l4.get ey
                have st : Stay H2 (upd H2 d (.lst (us.eraseIdx k))) := Stay.write e4 (fun _ z => nomatch z) (fun _ _ z => nomatch z)
                refine ⟨d, us, i, k, u, e2, by rw [int_at q2], e4, hc.1, hc.2, by rw [seqIx_eq, ← l4.length]; exact ek, e5, ?_⟩
                exact h2 r2 _ _ (s1.trans s2) ((t1.trans t2).trans st) (q5.mono st (Sub.refl _)) (M2.write hr2 hm2 e4 (fun _ z => nomatch z) (fun _ _ z => nomatch z) rfl rfl ⟨_, upd_same, (l4.erase k).mono st (Sub.refl _)⟩)
              · exact h2.elim
        | _ => simp [hm2] at h2
    | _ => exact h2.elim
  · right
    refine g1 rho fr mem σ H _ S M ?_
    cases e0 : ma fr mem with
    | bad => rw [e0] at h; exact h
    | exc c m1 => rw [e0] at h; exact h
    | ok x m1 =>
      rw [e0] at h
      simp only [Res.wp_ok] at h ⊢
      intro r1 v H1 s1 t1 q1 M1
      cases x with
      | ref n =>
        cases hm : m1[n]? with
        | none => simp [hm] at h
        | some o => cases o with
          | lst xs => exact absurd ⟨n, xs, m1, e0, hm⟩ hno
          | dct lk kvs =>
            simp only [hm] at h
            obtain ⟨d, vs, e1, hr, rd, l1⟩ := dct_at M1 q1 hm
            refine ⟨d, e1, .inl ⟨vs, rd⟩, ?_⟩
            rw [Res.wp_bind] at h
            refine g2 r1 fr m1 σ H1 _ (S.mono t1 s1) M1 (Res.wp_mono h (fun y m2 h2 r2 w H2 s2 t2 q2 M2 => ?_) fun c m2 h2 => exP.trans h2 s1 t1)
            cases hk : MP.keyOf y with
            | none => simp [hk] at h2
            | some k =>
              cases hm2 : m2[n]? with
              | none => simp [hm2, hk] at h2
              | some o2 => cases o2 with
                | dct lk2 kvs2 =>
                  cases lk2 with
                  | true => simp [hm2, hk] at h2
                  | false =>
                    cases hg : MP.getK kvs2 k with
                    | none => simp [hm2, hk, hg] at h2
                    | some z =>
                      simp only [hm2, hk, hg, Res.wp_ok] at h2
                      have hr2 := s2 n d hr
                      obtain ⟨us, e4, l4⟩ := M2.get hr2 hm2
                      rcases SimK.find k l4 with ⟨z1, z2⟩ | ⟨z', u, z1, z2, z3⟩
                      · rw [hg] at z1; cases z1
                      · rw [hg] at z1; cases z1
                        have st : Stay H2 (upd H2 d (.dK (dropK us k))) := Stay.write e4 (fun _ z => nomatch z) (fun _ _ z => nomatch z)
                        refine ⟨us, k, u, e4, key_at q2 hk, z2, ?_⟩
                        exact h2 r2 _ _ (s1.trans s2) ((t1.trans t2).trans st) (z3.mono st (Sub.refl _)) (M2.write hr2 hm2 e4 (fun _ z => nomatch z) (fun _ _ z => nomatch z) rfl rfl ⟨_, upd_same, (SimK.drop k l4).mono st (Sub.refl _)⟩)
                | _ => simp [hm2, hk] at h2
          | _ => simp [hm] at h
      | _ => exact h.elim
theorem le_pop0 {apos : Pos} (ha : LE X W none a ma) (hbase : attributeBase a "pop" X.env (eval a X.env) = eval a X.env := by rfl) (hline : (apos.endLine == pos.line) = true := by rfl) : LE X W none (.Call (.Attribute a "pop" apos) [] [] pos) (MP.ePop0 ma) := by
  obtain ⟨t1, p1, g1⟩ := ha
  refine ⟨_, pe_bm0 PySem.F.plainAttrs_list PySem.F.slot_list_pop PySem.F.type_list_pop mt_pop p1 hbase hline, fun rho fr mem σ H Q S M h => ?_⟩
  unfold MP.ePop0 at h
  rw [Res.wp_bind] at h
  refine g1 rho fr mem σ H _ S M (Res.wp_mono h (fun x m1 h1 r1 v H1 s1 t1 q1 M1 => ?_) fun c m1 h1 => h1)
  cases x with
  | ref n =>
    cases hm : m1[n]? with
    | none => simp [hm] at h1
    | some o => cases o with
      | lst xs =>
        cases ey : xs[xs.length - 1]? with
        | none => simp [hm, ey] at h1
        | some y =>
          simp only [hm, ey, Res.wp_ok] at h1
          obtain ⟨d, vs, e2, hr, e3, l1⟩ := lst_at M1 q1 hm
          obtain ⟨u, e5, q5⟩ := l1.get ey
          have st : Stay H1 (upd H1 d (.lst vs.dropLast)) := Stay.write e3 (fun _ z => nomatch z) (fun _ _ z => nomatch z)
          refine ⟨by rw [e2]; exact .inl ⟨rfl, vs, SqL.of e3⟩, d, vs, u, e2, rfl, e3, by rw [← l1.length]; exact e5, ?_⟩
          exact h1 r1 _ _ s1 (t1.trans st) (q5.mono st (Sub.refl _)) (M1.write hr hm e3 (fun _ z => nomatch z) (fun _ _ z => nomatch z) rfl rfl ⟨_, upd_same, (l1.dropLast).mono st (Sub.refl _)⟩)
      | _ => simp [hm] at h1
  | _ => exact h1.elim
theorem le_clear {apos : Pos} (ha : LE X W none a ma) (hbase : attributeBase a "clear" X.env (eval a X.env) = eval a X.env := by rfl) (hline : (apos.endLine == pos.line) = true := by rfl) : LE X W none (.Call (.Attribute a "clear" apos) [] [] pos) (MP.eClear ma) := by
  obtain ⟨t1, p1, g1⟩ := ha
  have pl := pe_bm0 PySem.F.plainAttrs_list PySem.F.slot_list_clear PySem.F.type_list_clear mt_clear p1 hbase hline
  have pd := pe_dclear p1 hbase hline
  refine ⟨_, PE.or pl pd, fun rho fr mem σ H Q S M h => ?_⟩
  unfold MP.eClear at h
  rw [Res.wp_bind] at h
  have isL : (∃ n xs m1, ma fr mem = .ok (.ref n) m1 ∧ m1[n]? = some (.lst xs)) ∨ ¬ (∃ n xs m1, ma fr mem = .ok (.ref n) m1 ∧ m1[n]? = some (.lst xs)) := Classical.em _
  rcases isL with ⟨n0, xs0, m0, e0, e1⟩ | hno
  · left
    refine g1 rho fr mem σ H _ S M ?_
    rw [e0] at h ⊢
    simp only [Res.wp_ok, e1] at h ⊢
    intro r1 v H1 s1 t1 q1 M1
    obtain ⟨d, vs, e2, hr, e3, l1⟩ := lst_at M1 q1 e1
    have st : Stay H1 (upd H1 d (.lst [])) := Stay.write e3 (fun _ z => nomatch z) (fun _ _ z => nomatch z)
    refine ⟨by rw [e2]; exact .inl ⟨rfl, vs, SqL.of e3⟩, d, vs, e2, rfl, e3, ?_⟩
    exact h r1 _ _ s1 (t1.trans st) SimV.non (M1.write hr e1 e3 (fun _ z => nomatch z) (fun _ _ z => nomatch z) rfl rfl ⟨_, upd_same, SimL.nil⟩)
  · right
    refine g1 rho fr mem σ H _ S M ?_
    cases e0 : ma fr mem with
    | bad => rw [e0] at h; exact h
    | exc c m1 => rw [e0] at h; exact h
    | ok x m1 =>
      rw [e0] at h
      simp only [Res.wp_ok] at h ⊢
      intro r1 v H1 s1 t1 q1 M1
      cases x with
      | ref n =>
        cases hm : m1[n]? with
        | none => simp [hm] at h
        | some o => cases o with
          | lst xs => exact absurd ⟨n, xs, m1, e0, hm⟩ hno
          | dct lk kvs =>
            cases lk with
            | true => simp [hm] at h
            | false =>
              simp only [hm, Res.wp_ok] at h
              obtain ⟨d, vs, e1, hr, e4, l1⟩ := dct0_at M1 q1 hm
              have st : Stay H1 (upd H1 d (.dK [])) := Stay.write e4 (fun _ z => nomatch z) (fun _ _ z => nomatch z)
              refine ⟨by rw [e1]; exact .inr (.inr (.inl ⟨rfl, .inl ⟨_, e4⟩⟩)), d, vs, e1, rfl, e4, ?_⟩
              exact h r1 _ _ s1 (t1.trans st) SimV.non (M1.write hr hm e4 (fun _ z => nomatch z) (fun _ _ z => nomatch z) rfl rfl ⟨_, upd_same, .nil⟩)
          | _ => simp [hm] at h
      | _ => exact h.elim
theorem le_extend {apos : Pos} (ha : LE X W none a ma) (hb : LE X W none b mb) (m : M1 X a "extend" apos b pos := by exact ⟨rfl, rfl, rfl, rfl⟩) (he : starEach [b] X.env = (false, eval b X.env) :: starEach [] X.env := by rfl)
    (hplain : (backTo pos (starEach [] X.env)).any (·.1) = false := by rfl) : LE X W none (.Call (.Attribute a "extend" apos) [b] [] pos) (MP.eExtend ma mb) := by
  obtain ⟨t1, p1, g1⟩ := ha
  obtain ⟨t2, p2, g2⟩ := hb
  refine ⟨_, pe_bm PySem.F.plainAttrs_list PySem.F.slot_list_extend PySem.F.type_list_extend mt_extend p1 (pa_cons p2 pa_nil he) m.base m.few m.line he hplain, fun rho fr mem σ H Q S M h => ?_⟩
  unfold MP.eExtend at h
  rw [Res.wp_bind] at h
  refine g1 rho fr mem σ H _ S M (Res.wp_mono h (fun x m1 h1 r1 v H1 s1 t1 q1 M1 => ?_) fun c m1 h1 => h1)
  cases x with
  | ref n =>
    cases hm : m1[n]? with
    | none => simp [hm] at h1
    | some o => cases o with
      | lst xs =>
        simp only [hm] at h1
        obtain ⟨d, vs, e1, hr, e2, l1⟩ := lst_at M1 q1 hm
        refine ⟨by rw [e1]; exact .inl ⟨rfl, vs, SqL.of e2⟩, ?_⟩
        rw [Res.wp_bind] at h1
        refine g2 r1 fr m1 σ H1 _ (S.mono t1 s1) M1 (Res.wp_mono h1 (fun y m2 h2 r2 w H2 s2 t2 q2 M2 => ?_) fun c m2 h2 => exP.trans h2 s1 t1)
        cases y with
        | ref k =>
          cases hm2 : m2[n]? with
          | none => simp [hm2] at h2
          | some o2 => cases o2 with
            | lst ys =>
              cases hm3 : m2[k]? with
              | none => simp [hm2, hm3] at h2
              | some o3 => cases o3 with
                | lst zs =>
                  simp only [hm2, hm3] at h2
                  split at h2
                  · rename_i hc
                    have hr2 := s2 n d hr
                    obtain ⟨us, e3, l3⟩ := M2.get hr2 hm2
                    obtain ⟨d2, ws, e5, hr5, e6, l6⟩ := lst_at M2 q2 hm3
                    have st : Stay H2 (upd H2 d (.lst (us ++ ws))) := Stay.write e3 (fun _ z => nomatch z) (fun _ _ z => nomatch z)
                    refine ⟨d, d2, us, ws, e1, by rw [e5], e3, e6, by rw [← l3.length, ← l6.length, ← line_eq]; exact hc, ?_⟩
                    exact h2 r2 _ _ (s1.trans s2) ((t1.trans t2).trans st) SimV.non (M2.write hr2 hm2 e3 (fun _ z => nomatch z) (fun _ _ z => nomatch z) rfl rfl ⟨_, upd_same, (l3.append l6).mono st (Sub.refl _)⟩)
                  · exact h2.elim
                | _ => simp [hm2, hm3] at h2
            | _ => simp [hm2] at h2
        | _ => exact h2.elim
      | _ => simp [hm] at h1
  | _ => exact h1.elim
theorem good_revL : GoodR1n X (fun x H Q => ∃ a xs, x = .ref a ∧ SqL X.K H a xs ∧ ∀ p, H p = none → Q (.ref p) (upd H p (.lst xs.reverse))) MP.oRevL := fun rho mem H x v Q E q1 M q => by
  cases x with
  | ref n =>
    cases hm : mem[n]? with
    | none => simp [MP.oRevL, hm] at q
    | some o => cases o with
      | lst xs =>
        simp only [MP.oRevL, hm] at q
        obtain ⟨p, vs, rfl, _, s1, l1⟩ := lst_at M q1 hm
        exact ⟨p, vs, rfl, SqL.of s1, lst_new q M l1.reverse⟩
      | _ => simp [MP.oRevL, hm] at q
  | _ => exact q.elim
theorem nx_revL : NoEx1 MP.oRevL := fun x m c m' h => by
  unfold MP.oRevL MP.new at h
  repeat' split at h
  all_goals cases h
theorem le_revL {k : Nat} {p1 p2 p3 : Pos} (ha : LE X W none a ma) : LE X W none (.Subscript a (.Slice none none (some (.UnaryOp .USub (.Constant (.int 1) k p1) p2)) p3) pos) (MP.e1 MP.oRevL ma) := by
  obtain ⟨t1, p1, g1⟩ := ha
  exact ⟨_, pe_revL p1, fun rho fr mem σ H Q S M h => GoodE.bind1n g1 good_revL nx_revL rho fr mem σ H Q S M h⟩
/-- a built-in of two values -/
theorem le_b2 {id : String} {x : Str} {ex : ExH} {r : List V → Hp → VK → Prop} {f : MV → MV → Mem → Res MV} (hc : CallR X (.builtin id) r) (g : GoodR2 X (fun v w H Q => r [v, w] H Q) f) (hn : NoEx2 f) (nm : Nm X N G) (j : Nat) (hm : X.mg x = none) (hv : bootBuiltins x = some (.builtin id)) (ha : LE X W ex a ma) (hb : LE X W ex b mb)
    (hx : G[j]? = some x := by rfl) (he : starEach [a, b] X.env = (false, eval a X.env) :: starEach [b] X.env := by rfl) (he2 : starEach [b] X.env = (false, eval b X.env) :: starEach [] X.env := by rfl) (hpl : (backTo pos (starEach [b] X.env)).any (·.1) = false := by rfl) : LE X W ex (.Call (.Name x p) [a, b] [] pos) (MP.e2 f ma mb) := by
  obtain ⟨t1, p1, g1⟩ := ha
  obtain ⟨t2, p2, g2⟩ := hb
  refine ⟨_, pe_callB hc (nm.gl j x hx).1 hm hv (pa_cons p1 (pa_cons p2 pa_nil he2) he) (nm.gl j x hx).2.2 (nm.gl j x hx).2.1 he hpl, fun rho fr mem σ H Q S M h => ?_⟩
  exact (GoodE.bind2 (r := fun v w H Q => r [v, w] H Q) g1 g2 g hn) rho fr mem σ H Q S M h
theorem good_max : GoodR2 X (fun v w H Q => ∃ i j, [v, w] = [V.int i, V.int j] ∧ Q (.int (if j > i then j else i)) H) MP.oMax := fun ex rho mem H x y v w Q q1 q2 M q => by
  cases x <;> cases y <;> first | exact q.elim | skip
  exact ⟨_, _, by rw [int_at q1, int_at q2], okP.at q (SimV.int _) M⟩
theorem good_min : GoodR2 X (fun v w H Q => ∃ i j, [v, w] = [V.int i, V.int j] ∧ Q (.int (if j < i then j else i)) H) MP.oMin := fun ex rho mem H x y v w Q q1 q2 M q => by
  cases x <;> cases y <;> first | exact q.elim | skip
  exact ⟨_, _, by rw [int_at q1, int_at q2], okP.at q (SimV.int _) M⟩
theorem nx_max : NoEx2 MP.oMax := fun x y m c m' h => by
  unfold MP.oMax at h
  repeat' split at h
  all_goals cases h
theorem nx_min : NoEx2 MP.oMin := fun x y m c m' h => by
  unfold MP.oMin at h
  repeat' split at h
  all_goals cases h
end
end ML
namespace ML
open PySem PySem.Spec PyProof.Rows L2
open MP (MV MO Mem Fr ME MA MT MS MG MI MFn Res SR)
/-! ### {k: v, ..} -/
def okD (K : PySem.W.Frag) (mg : Str → Option Value) (rho : Rho) (H : Hp) (Q : List (V × V) → Hp → Prop) : List (Key × MV) → Mem → Prop := fun kvs m => ∀ (r1 : Rho) (vs : List (Key × V)) (H1 : Hp), Sub rho r1 → Stay H H1 → SimP K none r1 H1 kvs vs → SimM K mg r1 H1 m → Q (vs.map fun kv => (kV kv.1, kv.2)) H1
def LPs (X : Cx) (W : WX) (pos : Pos) (keys : List (Option Expr)) (values : List Expr) (ms : List (ME × ME)) : Prop := ∃ trs, PPs X pos keys values trs ∧ ∀ (rho : Rho) (fr : Fr) (mem : Mem) (σ : L2.St) (H : Hp) (Q : List (V × V) → Hp → Prop), SimS X.K none rho H fr σ → SimM X.K X.mg rho H mem →
  (MP.pairs ms fr mem).wp (okD X.K X.mg rho H Q) (exP X.K X.mg rho H σ W) → tPairs trs σ H Q
section
variable {X : Cx} {W : WX} {a b c e : Expr} {ma mb mc me : ME} {pos p p2 : Pos}
theorem lps_nil : LPs X W pos [] [] [] := ⟨[], pps_nil, fun rho fr mem σ H Q S M h => h rho [] H (Sub.refl _) (Stay.refl _) .nil M⟩
theorem lps_cons {ks : List (Option Expr)} {vs : List Expr} {ms : List (ME × ME)} (ha : LE X W none a ma) (hb : LE X W none b mb) (hr : LPs X W pos ks vs ms) : LPs X W pos (some a :: ks) (b :: vs) ((ma, mb) :: ms) := by
  obtain ⟨t1, p1, g1⟩ := ha
  obtain ⟨t2, p2, g2⟩ := hb
  obtain ⟨t3, p3, g3⟩ := hr
  refine ⟨(t1, t2) :: t3, pps_cons p1 p2 p3, fun rho fr mem σ H Q S M h => ?_⟩
  unfold MP.pairs at h
  rw [Res.wp_bind] at h
  refine g1 rho fr mem σ H _ S M (Res.wp_mono h (fun x m1 h1 r1 v H1 s1 t1 q1 M1 => ?_) fun c m1 h1 => h1)
  rw [Res.wp_bind] at h1
  refine g2 r1 fr m1 σ H1 _ (S.mono t1 s1) M1 (Res.wp_mono h1 (fun y m2 h2 r2 w H2 s2 t2 q2 M2 => ?_) fun c m2 h2 => exP.trans h2 s1 t1)
  rw [Res.wp_bind] at h2
  refine g3 r2 fr m2 σ H2 _ (S.mono (t1.trans t2) (s1.trans s2)) M2 (Res.wp_mono h2 (fun kvs m3 h3 r3 us H3 s3 t3 q3 M3 => ?_) fun c m2 h2 => exP.trans h2 (s1.trans s2) (t1.trans t2))
  cases hk : MP.keyOf x with
  | none => simp [hk] at h3
  | some k =>
    simp only [hk, Res.wp_ok] at h3
    have e1 := key_at (q1.mono (t2.trans t3) (s2.trans s3)) hk
    have := h3 r3 ((k, w) :: us) H3 (s1.trans (s2.trans s3)) ((t1.trans t2).trans t3) (.cons ⟨rfl, q2.mono t3 s3⟩ q3) M3
    rw [e1]
    exact this
theorem pairs_len : ∀ (ms : List (ME × ME)) (fr : Fr) (m : Mem) (Q : List (Key × MV) → Mem → Prop) (E : Str → Mem → Prop), (MP.pairs ms fr m).wp Q E → (MP.pairs ms fr m).wp (fun kvs m' => kvs.length = ms.length ∧ Q kvs m') E
  | [], fr, m, Q, E, h => ⟨rfl, h⟩
  | (k, v) :: r, fr, m, Q, E, h => by
    unfold MP.pairs at h ⊢
    rw [Res.wp_bind] at h ⊢
    refine Res.wp_mono h (fun x m1 h1 => ?_) fun _ _ h => h
    rw [Res.wp_bind] at h1 ⊢
    refine Res.wp_mono h1 (fun y m2 h2 => ?_) fun _ _ h => h
    rw [Res.wp_bind] at h2 ⊢
    refine Res.wp_mono (pairs_len r fr m2 _ E h2) (fun kvs m3 h3 => ?_) fun _ _ h => h
    obtain ⟨h3, h4⟩ := h3
    cases e : MP.keyOf x with
    | none => rw [e] at h4; exact h4.elim
    | some c =>
      rw [e] at h4
      exact ⟨by rw [List.length_cons, List.length_cons, h3], h4⟩
theorem le_dct {keys : List (Option Expr)} {values : List Expr} {ms : List (ME × ME)} (h : LPs X W pos keys values ms) (hall : keys.all (·.isSome) = true := by rfl) (hl : keys.length = values.length := by rfl) (h0 : keys ≠ [] := by intro z; cases z) (h15 : keys.length ≤ 15 := by decide) (h16 : ms.length ≤ 15 := by decide) :
    LE X W none (.Dict keys values pos) (MP.eDct ms) := by
  obtain ⟨t, p1, g⟩ := h
  refine ⟨_, pe_disp p1 hall hl h0 h15, fun rho fr mem σ H Q S M h => ?_⟩
  unfold MP.eDct at h
  rw [Res.wp_bind] at h
  intro p hp
  have st : Stay H (upd H p (.dK [])) := Stay.new hp
  have M1 : SimM X.K X.mg (rho ++ [p]) (upd H p (.dK [])) (mem ++ [.dct false []]) := M.push hp rfl ⟨[], upd_same, .nil⟩
  refine g (rho ++ [p]) fr _ σ _ _ (S.mono st (Sub.snoc _ _)) M1 (Res.wp_mono (pairs_len _ _ _ _ _ h) (fun kvs m1 h1 r1 vs H1 s1 t1 q1 M2 => ?_) fun c m2 h2 => exP.trans h2 (Sub.snoc _ _) st)
  obtain ⟨hlen1, h1⟩ := h1
  cases hm : m1[mem.length]? with
  | none => simp [hm] at h1
  | some o => cases o with
    | dct lk xs =>
      cases lk with
      | true => simp [hm] at h1
      | false => cases xs with
        | cons x xs => simp [hm] at h1
        | nil =>
          simp only [hm, Res.wp_ok] at h1
          have hr0 : (rho ++ [p])[mem.length]? = some p := by rw [← M.len]; simp
          have hr := s1 _ _ hr0
          obtain ⟨us, e1, l1⟩ := M2.get hr hm
          cases l1
          have st2 : Stay H1 (upd H1 p (.dK (mergeK [] vs))) := Stay.write e1 (fun _ z => nomatch z) (fun _ _ z => nomatch z)
          refine ⟨e1, vs, rfl, ?_, ?_⟩
          · rw [← q1.length, hlen1]; exact h16
          · refine h1 r1 _ _ ((Sub.snoc _ _).trans s1) ((st.trans t1).trans st2) ?_ (M2.write hr hm e1 (fun _ z => nomatch z) (fun _ _ z => nomatch z) rfl rfl ⟨_, upd_same, (mergeD_at .nil q1).mono st2 (Sub.refl _)⟩)
            unfold SimV
            exact ⟨p, hr, rfl⟩
    | _ => simp [hm] at h1
end
end ML

/-! MLinkU: d.pop(k, x). -/
namespace ML
open PySem PySem.Spec PyProof.Rows L2
open MP (MV MO Mem Fr ME MA MT MS MG MI MFn Res SR)
section
variable {X : Cx} {W : WX} {a b c e : Expr} {ma mb mc me : ME} {pos p p2 : Pos} {N : List (Str × Nat × Bool)} {G : List Str}
theorem le_pop2 {apos : Pos} (ha : LE X W none a ma) (hb : LE X W none b mb) (hc : LE X W none c mc) (m : M2 X a "pop" apos b c pos := by exact ⟨rfl, rfl, rfl, rfl⟩) : LE X W none (.Call (.Attribute a "pop" apos) [b, c] [] pos) (MP.ePop2 ma mb mc) := by
  obtain ⟨t1, p1, g1⟩ := ha
  obtain ⟨t2, p2, g2⟩ := hb
  obtain ⟨t3, p3, g3⟩ := hc
  refine ⟨_, pe_dpop2 p1 p2 p3 m, fun rho fr mem σ H Q S M h => ?_⟩
  unfold MP.ePop2 at h
  rw [Res.wp_bind] at h
  refine g1 rho fr mem σ H _ S M (Res.wp_mono h (fun x m1 h1 r1 v H1 s1 t1 q1 M1 => ?_) fun c m1 h1 => h1)
  cases x with
  | ref n =>
    simp only at h1
    cases hm : m1[n]? with
    | none => simp [hm] at h1
    | some o => cases o with
      | dct lk kvs =>
        simp only [hm] at h1
        obtain ⟨d, vs, e1, hr, rd, l1⟩ := dct_at M1 q1 hm
        refine ⟨d, e1, .inl ⟨vs, rd⟩, ?_⟩
        rw [Res.wp_bind] at h1
        refine g2 r1 fr m1 σ H1 _ (S.mono t1 s1) M1 (Res.wp_mono h1 (fun y m2 h2 r2 w H2 s2 t2 q2 M2 => ?_) fun c m2 h2 => exP.trans h2 s1 t1)
        rw [Res.wp_bind] at h2
        refine g3 r2 fr m2 σ H2 _ (S.mono (t1.trans t2) (s1.trans s2)) M2 (Res.wp_mono h2 (fun z m3 h3 r3 u H3 s3 t3 q3 M3 => ?_) fun c m3 h3 => exP.trans h3 (s1.trans s2) (t1.trans t2))
        cases hk : MP.keyOf y with
        | none => simp [hk] at h3
        | some k =>
          cases hm3 : m3[n]? with
          | none => simp [hm3, hk] at h3
          | some o3 => cases o3 with
            | dct lk3 kvs3 =>
              cases lk3 with
              | true => simp [hm3, hk] at h3
              | false =>
                have hr3 := s3 n d (s2 n d hr)
                obtain ⟨us, e4, l4⟩ := M3.get hr3 hm3
                have ew := key_at (q2.mono t3 s3) hk
                refine ⟨us, k, e4, ew, fun v hv => ?_, fun hv => ?_⟩
                · rcases SimK.find k l4 with ⟨z1, z2⟩ | ⟨z', v', z1, z2, z3⟩
                  · rw [hv] at z2; cases z2
                  · rw [hv] at z2; cases z2
                    simp only [hm3, hk, z1, Res.wp_ok] at h3
                    have st : Stay H3 (upd H3 d (.dK (dropK us k))) := Stay.write e4 (fun _ z => nomatch z) (fun _ _ z => nomatch z)
                    exact h3 r3 _ _ (s1.trans (s2.trans s3)) (((t1.trans t2).trans t3).trans st) (z3.mono st (Sub.refl _)) (M3.write hr3 hm3 e4 (fun _ z => nomatch z) (fun _ _ z => nomatch z) rfl rfl ⟨_, upd_same, (SimK.drop k l4).mono st (Sub.refl _)⟩)
                · rcases SimK.find k l4 with ⟨z1, z2⟩ | ⟨z', v', z1, z2, z3⟩
                  · simp only [hm3, hk, z1, Res.wp_ok] at h3
                    exact h3 r3 _ H3 (s1.trans (s2.trans s3)) ((t1.trans t2).trans t3) q3 M3
                  · rw [hv] at z2; cases z2
            | _ => simp [hm3, hk] at h3
      | _ => simp [hm] at h1
  | _ => exact h1.elim
end
end ML

/-! MLinkV: methods of a class's own, and new instances. -/
namespace ML
open PySem PySem.Spec PyProof.Rows L2
open MP (MV MO Mem Fr ME MA MT MS MG MI MFn Res SR)
section
variable {X : Cx} {CX : CXT} {k : Nat} {f C : Addr} {fd : FuncData} {ps : List Str} {sp : Sp} {E : L2.St → XK} {x m : Str} {p pos apos : Pos} {e o : Expr} {es : List Expr} {ta : TE} {t : TA}
/-- o.m(..), what is raised by the slots -/
def tMethE (C : Addr) (m : Str) (sp : Sp) (E : L2.St → XK) (ta : TE) (t : TA) : TE := fun σ H Q => ta σ H fun x H1 => ∃ a dx fs, x = .ref a ∧ H1 a = some (.ins C dx fs) ∧ fs.lookup m = none ∧ t σ H1 fun vs H2 => sp (x :: vs) H2 Q (E σ)
theorem pe_methE {pl : Sem Bool} (he : PE X o ta) (c : Cls X.K C) (hm : Meth X.K C m f) (F : FnOk X.prog X.w X.K X.mg X.base CX k f fd ps sp) (hr : Room k X.A) (hb : Binds X.K fd ps []) (hx : ∀ σ, PassesAt CX X σ (E σ)) (ha : PA X (e :: es) t)
    (hst : starEach (e :: es) X.env = (false, eval e X.env) :: starEach es X.env := by rfl) (hpl : (backTo pos (starEach es X.env)).any (·.1) = false := by rfl)
    (ht : eval (.Call (.Attribute o m apos) (e :: es) [] pos) X.env = (do
      let ov ← eval o X.env
      standAt apos.atName
      let (f, first) ← holding [ov] (getMethod ov m pl)
      callWith pos f first (backTo pos (starEach (e :: es) X.env)) (backToKw pos (keywordEach [] X.env))) := by rfl) :
    PE X (.Call (.Attribute o m apos) (e :: es) [] pos) (tMethE C m sp E ta t) := by
  refine ⟨fun pins s σ H Q I h => ?_⟩
  refine PySem.W.methodCall_KW (pl := pl) (thn (he.run pins s σ H _ I h) fun u s1 ⟨x, H1, I1, rx, a, dx, fs, ex, ea, l, q⟩ => ?_) ht
  subst ex
  obtain rfl : u = Value.ref a := rx
  refine getmeth_ok I1 ea c hm l ?_
  refine PySem.W.callWith_K (first := [.ref a]) (h₀ := X.base) I.ok.mod.kin hm.kp (thn (ha.run pos pins s1 σ H1 _ I1 q) fun us s2 ⟨vs, H2, I2, r, q2⟩ => ⟨I2.kIn, ?_⟩) hst hpl
  exact run_fnS (us := .ref a :: us) (vs := .ref a :: vs) F hr hb (hx σ) I2 (.cons rfl r) q2
theorem pe_methE0 {pl : Sem Bool} (he : PE X o ta) (c : Cls X.K C) (hm : Meth X.K C m f) (F : FnOk X.prog X.w X.K X.mg X.base CX k f fd ps sp) (hr : Room k X.A) (hb : Binds X.K fd ps []) (hx : ∀ σ, PassesAt CX X σ (E σ))
    (ht : eval (.Call (.Attribute o m apos) [] [] pos) X.env = (do
      let ov ← eval o X.env
      standAt apos.atName
      let (f, first) ← holding [ov] (getMethod ov m pl)
      callWith pos f first (backTo pos (starEach [] X.env)) (backToKw pos (keywordEach [] X.env))) := by rfl) :
    PE X (.Call (.Attribute o m apos) [] [] pos) (tMethE C m sp E ta tNil) := by
  refine ⟨fun pins s σ H Q I h => ?_⟩
  refine PySem.W.methodCall_KW (pl := pl) (thn (he.run pins s σ H _ I h) fun u s1 ⟨x, H1, I1, rx, a, dx, fs, ex, ea, l, q⟩ => ?_) ht
  subst ex
  obtain rfl : u = Value.ref a := rx
  refine getmeth_ok I1 ea c hm l ?_
  exact PySem.W.callWith_K0 (first := [.ref a]) I1.kIn hm.kp (run_fnS (us := [.ref a]) (vs := [.ref a]) F hr hb (hx σ) I1 (.cons rfl .nil) q)
/-- C(..), what is raised by the slots -/
def tMakeE (C : Addr) (sp : Sp) (E : L2.St → XK) (t : TA) : TE := fun σ H Q => t σ H fun vs H1 => ∀ x dx, H1 x = none → H1 dx = none → dx ≠ x →
  sp (.ref x :: vs) (upd (upd H1 dx (.own x)) x (.ins C dx [])) (fun v H2 => v = .non ∧ Q (.ref x) H2) (E σ)
theorem run_makeE {pins : List (Addr × Obj)} {σ : L2.St} {H : Hp} {s : Shared} {Q : VK} {us : List Value} {vs : List V} (M : Mk X.K C f) (F : FnOk X.prog X.w X.K X.mg X.base CX k f fd ps sp) (hr : Room (k + 1) X.A) (hb : Binds X.K fd ps [])
    (hx : PassesAt CX X σ (E σ)) (I : Inv X pins σ H s) (r : Vals vs us)
    (h : ∀ x dx, H x = none → H dx = none → dx ≠ x → sp (.ref x :: vs) (upd (upd H dx (.own x)) x (.ins C dx [])) (fun v H2 => v = .non ∧ Q (.ref x) H2) (E σ)) :
    wpAny (model X.prog X.w) X.A (call (.ref C) us) (EP X pins σ Q) X.xe s := by
  have hq := h (s.heap.objs.size + 1) s.heap.objs.size (I.hok.fresh (Nat.le_succ _)) (I.hok.fresh (Nat.le_refl _)) (Nat.ne_of_lt (Nat.lt_succ_self _))
  have I2 := Inv.made (C := C) I
  have r2 : Vals (V.ref (s.heap.objs.size + 1) :: vs) (Value.ref (s.heap.objs.size + 1) :: us) := .cons rfl r
  have hl : (Value.ref (s.heap.objs.size + 1) :: us).length = ps.length := by
    have e := r2.length
    rw [F.len _ _ _ _ hq] at e
    exact e.symm
  have b := hb _ (Value.ref (s.heap.objs.size + 1) :: us) I2.kIn (by rw [List.append_nil]; exact hl)
  rw [List.append_nil] at b
  refine wpAny_call (make_map (f := f) I.kIn M.makes M.init (beq_iff_eq.mp M.fn) (codeAny_mono (F.run _ X.stack _ _ ⟨Value.ref (s.heap.objs.size + 1) :: us, []⟩ (Value.ref (s.heap.objs.size + 1) :: us) _ _ (E σ) (hr.make C us [])
    (I2.env0.make C us []) b r2 hq) fun r s' hq' => ?_))
  cases r with
  | error e => exact hx pins _ _ e s' I2 hq'
  | ok fl =>
    cases fl with
    | ret u =>
      obtain ⟨v, H', I3, rv, ev, q3⟩ := I2.after hq'
      subst ev
      exact ⟨rv, ⟨V.ref (s.heap.objs.size + 1), H', I3, rfl, q3⟩⟩
    | next => exact False.elim hq'
    | brk => exact False.elim hq'
    | cont => exact False.elim hq'
theorem pe_makeE (M : Mk X.K C f) (F : FnOk X.prog X.w X.K X.mg X.base CX k f fd ps sp) (hr : Room (k + 1) X.A) (hg : Gl X x) (hm : X.mg x = some (.ref C)) (hb : Binds X.K fd ps []) (hx : ∀ σ, PassesAt CX X σ (E σ))
    (ha : PA X (e :: es) t) (hdb : (x == ("__debug__" : Str)) = false := by decide) (he : starEach (e :: es) X.env = (false, eval e X.env) :: starEach es X.env := by rfl) (hpl : (backTo pos (starEach es X.env)).any (·.1) = false := by rfl) :
    PE X (.Call (.Name x p) (e :: es) [] pos) (tMakeE C sp E t) := by
  refine ⟨fun pins s σ H Q I h => ?_⟩
  refine wpAny_Call_Name_kw (ld_glob I hg hm ?_ hdb)
  refine PySem.W.callWith_K (h₀ := X.base) I.ok.mod.kin M.kp (thn (ha.run pos pins s σ H _ I h) fun us s1 ⟨vs, H1, I1, r, q⟩ => ⟨I1.kIn, ?_⟩) he hpl
  exact run_makeE M F hr hb (hx σ) I1 r q
theorem pe_makeE0 (M : Mk X.K C f) (F : FnOk X.prog X.w X.K X.mg X.base CX k f fd ps sp) (hr : Room (k + 1) X.A) (hg : Gl X x) (hm : X.mg x = some (.ref C)) (hb : Binds X.K fd ps []) (hx : ∀ σ, PassesAt CX X σ (E σ))
    (hdb : (x == ("__debug__" : Str)) = false := by decide) : PE X (.Call (.Name x p) [] [] pos) (tMakeE C sp E tNil) := by
  refine ⟨fun pins s σ H Q I h => ?_⟩
  refine wpAny_Call_Name_kw (ld_glob I hg hm ?_ hdb)
  exact PySem.W.callWith_K0 I.kIn M.kp (run_makeE (us := []) M F hr hb (hx σ) I .nil h)
end
section
variable {X : Cx} {W : WX} {ex : ExH} {e o : Expr} {es : List Expr} {mo : ME} {ms : List ME} {pos p apos : Pos} {N : List (Str × Nat × Bool)} {G : List Str}
/-- a method of the class C, what it does -/
structure MetM (P : Program) (w : World) (K : PySem.W.Frag) (mg : Str → Option Value) (base : Heap) (k : Nat) (C m : Str) (np : Nat) (f : MFn) : Prop where
  ex : ∃ (Ca fa : Addr) (fd : FuncData) (ps : List Str), mg C = some (.ref Ca) ∧ Cls K Ca ∧ Meth K Ca m fa ∧ FnOk P w K mg base (L2.CX P w) k fa fd ps (spM K mg np f) ∧ Binds K fd ps []
/-- the class C is made by its def -/
structure MkM (P : Program) (w : World) (K : PySem.W.Frag) (mg : Str → Option Value) (base : Heap) (k : Nat) (C : Str) (np : Nat) (f : MFn) : Prop where
  ex : ∃ (Ca fa : Addr) (fd : FuncData) (ps : List Str), mg C = some (.ref Ca) ∧ Mk K Ca fa ∧ FnOk P w K mg base (L2.CX P w) k fa fd ps (spM K mg np f) ∧ Binds K fd ps []
theorem aL_len : ∀ {ms : List ME} {fr : Fr} {mem : Mem} {xs : List MV} {m1 : Mem}, (MP.aL ms fr mem) = .ok xs m1 → xs.length = ms.length := by
  intro ms
  induction ms with
  | nil => intro fr mem xs m1 e; cases e; rfl
  | cons a r ih =>
    intro fr mem xs m1 e
    unfold MP.aL MP.aCons at e
    cases e1 : a fr mem with
    | ok x m2 =>
      rw [e1] at e
      simp only [Res.bind_ok] at e
      cases e2 : MP.aL r fr m2 with
      | ok ys m3 =>
        rw [e2] at e
        simp only [Res.bind_ok] at e
        cases e
        rw [List.length_cons, List.length_cons, ih e2]
      | exc c m3 => rw [e2] at e; cases e
      | bad => rw [e2] at e; cases e
    | exc c m2 => rw [e1] at e; cases e
    | bad => rw [e1] at e; cases e
/-- what stands behind o.m(..) -/
theorem meth_good {C m : Str} {Ca : Addr} {np : Nat} {f : MFn} {ta : TE} {t : TA} (hC : X.mg C = some (.ref Ca)) (go : GoodE X W none ta mo) (ga : GoodA X W none t (MP.aL ms)) (hl : ms.length + 1 = np) :
    GoodE X W none (tMethE Ca m (spM X.K X.mg np f) (WE W) ta t) (MP.eMeth C m f mo (MP.aL ms)) := fun rho fr mem σ H Q S M h => by
  unfold MP.eMeth at h
  rw [Res.wp_bind] at h
  refine go rho fr mem σ H _ S M (Res.wp_mono h (fun x m1 h1 rho1 v H1 s1 t1 q1 M1 => ?_) fun c m1 h1 => h1)
  cases x with
  | ref n =>
    cases hm : m1[n]? with
    | none => simp [hm] at h1
    | some o => cases o with
      | ins D fs =>
        simp only [hm] at h1
        split at h1
        · rename_i hD
          obtain ⟨hD, hg⟩ := hD
          subst hD
          obtain ⟨a, Ca', dx, vs, e1, r1, hC', e2, l1⟩ := ins_at M1 q1 hm
          rw [hC] at hC'; cases hC'
          have lk : vs.lookup m = none := by
            rcases SimF.find m l1 with ⟨f1, f2⟩ | ⟨x', v', f1, f2, q3⟩
            · exact f2
            · rw [hg] at f1; cases f1
          refine ⟨a, dx, vs, e1, e2, lk, ?_⟩
          rw [Res.wp_bind] at h1
          refine ga rho1 fr m1 σ H1 _ (S.mono t1 s1) M1 ?_
          cases e0 : MP.aL ms fr m1 with
          | ok xs m2 =>
            rw [e0] at h1
            have hlen' := aL_len e0
            intro r2 ws H2 s2 t2 l2 M2
            refine ⟨by rw [List.length_cons, ← l2.length, hlen', hl], r2, .ref n :: xs, m2, SimL.cons (q1.mono t2 s2) l2, M2, Res.wp_mono h1 (fun y m3 h3 => okP.trans h3 (s1.trans s2) (t1.trans t2)) fun c m3 h3 => ?_⟩
            exact fun r3 C H3 s3 t3 e3 M3 => h3 r3 C H3 ((s1.trans s2).trans s3) ((t1.trans t2).trans t3) e3 M3
          | exc c m2 => rw [e0] at h1; exact exP.trans h1 s1 t1
          | bad => rw [e0] at h1; exact h1
        · exact h1.elim
      | _ => simp [hm] at h1
  | _ => exact h1.elim
theorem le_meth {C m : Str} {k np : Nat} {f : MFn} (F : MetM X.prog X.w X.K X.mg X.base k C m np f) (hr : Room k X.A) (tk : Takes X W) (ho : LE X W none o mo) (ha : LA X W none (e :: es) (MP.aL ms)) (hl : ms.length + 1 = np := by rfl) {pl : Sem Bool}
    (hst : starEach (e :: es) X.env = (false, eval e X.env) :: starEach es X.env := by rfl) (hpl : (backTo pos (starEach es X.env)).any (·.1) = false := by rfl)
    (ht : eval (.Call (.Attribute o m apos) (e :: es) [] pos) X.env = (do
      let ov ← eval o X.env
      standAt apos.atName
      let (f, first) ← holding [ov] (getMethod ov m pl)
      callWith pos f first (backTo pos (starEach (e :: es) X.env)) (backToKw pos (keywordEach [] X.env))) := by rfl) : LE X W none (.Call (.Attribute o m apos) (e :: es) [] pos) (MP.eMeth C m f mo (MP.aL ms)) := by
  obtain ⟨Ca, fa, fd, ps, h1, h2, h3, h4, h5⟩ := F.ex
  obtain ⟨t0, p0, g0⟩ := ho
  obtain ⟨t1, p1, g1⟩ := ha
  exact ⟨_, pe_methE (pl := pl) p0 h2 h3 h4 hr h5 (passAt tk) p1 hst hpl ht, meth_good h1 g0 g1 hl⟩
theorem ga_nil : GoodA X W none tNil (MP.aL []) := fun rho fr mem σ H Q S M h => h rho [] H (Sub.refl _) (Stay.refl _) SimL.nil M
theorem le_meth0 {C m : Str} {k np : Nat} {f : MFn} (F : MetM X.prog X.w X.K X.mg X.base k C m np f) (hr : Room k X.A) (tk : Takes X W) (ho : LE X W none o mo) (hl : 1 = np := by rfl) {pl : Sem Bool}
    (ht : eval (.Call (.Attribute o m apos) [] [] pos) X.env = (do
      let ov ← eval o X.env
      standAt apos.atName
      let (f, first) ← holding [ov] (getMethod ov m pl)
      callWith pos f first (backTo pos (starEach [] X.env)) (backToKw pos (keywordEach [] X.env))) := by rfl) : LE X W none (.Call (.Attribute o m apos) [] [] pos) (MP.eMeth C m f mo (MP.aL [])) := by
  obtain ⟨Ca, fa, fd, ps, h1, h2, h3, h4, h5⟩ := F.ex
  obtain ⟨t0, p0, g0⟩ := ho
  exact ⟨_, pe_methE0 (pl := pl) p0 h2 h3 h4 hr h5 (passAt tk) ht, meth_good h1 g0 ga_nil hl⟩
/-- what stands behind C(..) -/
theorem make_good {C : Str} {Ca : Addr} {np : Nat} {f : MFn} {t : TA} (hC : X.mg C = some (.ref Ca)) (ga : GoodA X W none t (MP.aL ms)) (hl : ms.length + 1 = np) :
    GoodE X W none (tMakeE Ca (spM X.K X.mg np f) (WE W) t) (MP.eMake C f (MP.aL ms)) := fun rho fr mem σ H Q S M h => by
  unfold MP.eMake at h
  rw [Res.wp_bind] at h
  refine ga rho fr mem σ H _ S M ?_
  cases e0 : MP.aL ms fr mem with
  | ok xs m1 =>
    rw [e0] at h
    have hlen' := aL_len e0
    intro r1 vs H1 s1 t1 l1 M1 x dx hx hdx hne
    have hx' : (upd H1 dx (.own x)) x = none := by rw [upd_ne (Ne.symm hne)]; exact hx
    have M2 := M1.fresh (u := .own x) hdx
    have t2 : Stay H1 (upd (upd H1 dx (.own x)) x (.ins Ca dx [])) := (Stay.new hdx).trans (Stay.new hx')
    have M3 := M2.push (p := x) (u := .ins Ca dx []) (o := .ins C []) hx' rfl ⟨Ca, dx, [], hC, upd_same, .nil⟩
    have hxr : (r1 ++ [x])[m1.length]? = some x := by rw [← M1.len]; simp
    have h := h
    rw [Res.wp_ok, Res.wp_bind] at h
    refine ⟨by rw [List.length_cons, ← l1.length, hlen', hl], r1 ++ [x], .ref m1.length :: xs, _, SimL.cons ?_ (l1.mono t2 (Sub.snoc _ _)), M3, Res.wp_mono h (fun y m3 h3 => ?_) fun c m3 h3 => ?_⟩
    · unfold SimV
      exact ⟨x, hxr, rfl⟩
    · intro r3 v H3 s3 t3 q3 M4
      cases y with
      | non =>
        refine ⟨?_, ?_⟩
        · exact q3
        · refine h3 r3 (.ref x) H3 ((s1.trans (Sub.snoc _ _)).trans s3) ((t1.trans t2).trans t3) ?_ M4
          unfold SimV
          exact ⟨x, s3 _ _ hxr, rfl⟩
      | _ => exact h3.elim
    · exact fun r3 C H3 s3 t3 e3 M3 => h3 r3 C H3 ((s1.trans (Sub.snoc _ _)).trans s3) ((t1.trans t2).trans t3) e3 M3
  | exc c m1 => rw [e0] at h; exact h
  | bad => rw [e0] at h; exact h
theorem le_make (nm : Nm X N G) (j : Nat) {C : Str} {k np : Nat} {f : MFn} (F : MkM X.prog X.w X.K X.mg X.base k C np f) (hr : Room (k + 1) X.A) (tk : Takes X W) (ha : LA X W none (e :: es) (MP.aL ms)) (hl : ms.length + 1 = np := by rfl) (hx : G[j]? = some C := by rfl)
    (he : starEach (e :: es) X.env = (false, eval e X.env) :: starEach es X.env := by rfl) (hpl : (backTo pos (starEach es X.env)).any (·.1) = false := by rfl) : LE X W none (.Call (.Name C p) (e :: es) [] pos) (MP.eMake C f (MP.aL ms)) := by
  obtain ⟨Ca, fa, fd, ps, h1, h2, h3, h4⟩ := F.ex
  obtain ⟨t1, p1, g1⟩ := ha
  exact ⟨_, pe_makeE h2 h3 hr (nm.gl j C hx).1 h1 h4 (passAt tk) p1 (nm.gl j C hx).2.1 he hpl, make_good h1 g1 hl⟩
theorem le_make0 (nm : Nm X N G) (j : Nat) {C : Str} {k np : Nat} {f : MFn} (F : MkM X.prog X.w X.K X.mg X.base k C np f) (hr : Room (k + 1) X.A) (tk : Takes X W) (hl : 1 = np := by rfl) (hx : G[j]? = some C := by rfl) : LE X W none (.Call (.Name C p) [] [] pos) (MP.eMake C f (MP.aL [])) := by
  obtain ⟨Ca, fa, fd, ps, h1, h2, h3, h4⟩ := F.ex
  exact ⟨_, pe_makeE0 h2 h3 hr (nm.gl j C hx).1 h1 h4 (passAt tk) (nm.gl j C hx).2.1, make_good h1 ga_nil hl⟩
/-- o.f = v -/
def gFldT (K : PySem.W.Frag) (to : TE) (f : Str) : TG := fun v σ H Q => to σ H fun x H1 => ∃ a C dx fs, x = .ref a ∧ H1 a = some (.ins C dx fs) ∧ Cls K C ∧ NoAttr K C f ∧ fs.length < 1000 ∧ Q σ (upd H1 a (.ins C dx (putF f v fs)))
theorem pg_fld {f : Str} {to : TE} (ho : PE X o to)
    (ha : ∀ v, assign (.Attribute o f pos) X.env v = (do
      let ov ← holding [v] (eval o X.env)
      standAt pos.atName
      holding [v, ov] (setAttr ov f v)
      release [v, ov] []) := by intro _; rfl) : PG X (.Attribute o f pos) (gFldT X.K to f) := by
  refine ⟨fun pins s σ H v u Q I r h => ?_⟩
  rw [ha]
  refine wpAny_bind (wpAny_holding (thn (ho.run pins s σ H _ I h) fun ov s1 ⟨x, H1, I1, r1, a, C, dx, fs, ex, ea, c, n, l, q⟩ => ?_))
  subst ex
  obtain rfl : ov = Value.ref a := r1
  refine wpAny_bind (wpAny_standAt (wpAny_bind (wpAny_holding ?_)))
  exact setattr_ok I1 ea c n l r fun s3 I3 => wpAny_release ⟨σ, _, I3, q⟩
theorem setF_len (f : Str) (x : MV) : ∀ fs : List (Str × MV), (MP.setF f x fs).length ≤ fs.length + 1
  | [] => Nat.le_refl _
  | p :: fs => by
    have h1 : MP.setF f x (p :: fs) = if p.1 = f then (p.1, x) :: fs else p :: MP.setF f x fs := rfl
    rw [h1]
    split
    · simp
    · have := setF_len f x fs
      simp only [List.length_cons]; omega
theorem lg_fld {C f : Str} (cf : CF X.K X.mg C f) (ho : LE X W none o mo)
    (ha : ∀ v, assign (.Attribute o f pos) X.env v = (do
      let ov ← holding [v] (eval o X.env)
      standAt pos.atName
      holding [v, ov] (setAttr ov f v)
      release [v, ov] []) := by intro _; rfl) : LG X W none (.Attribute o f pos) (MP.gFld C mo f) := by
  obtain ⟨t1, p1, g1⟩ := ho
  refine ⟨_, pg_fld p1 ha, fun rho z u fr mem σ H Q D S M q h => ?_⟩
  unfold MP.gFld at h
  rw [wp_ofRes] at h
  refine g1 rho fr mem σ H _ S M (Res.wp_mono h (fun x m1 h1 r1 v H1 s1 t1 q1 M1 => ?_) fun c m1 h1 => ex_exP h1 S (Sub.refl _) (Stay.refl _))
  cases x with
  | ref n =>
    cases hm : m1[n]? with
    | none => simp [MP.putFld, hm] at h1
    | some ob => cases ob with
      | ins D' fs =>
        simp only [MP.putFld, hm] at h1
        split at h1
        · rename_i m2 he
          split at he
          · rename_i hD
            obtain ⟨hD, hlen⟩ := hD
            subst hD
            cases he
            obtain ⟨a, Ca, dx, vs, e1, r2, hC, e2, l1⟩ := ins_at M1 q1 hm
            have hvl : vs.length = fs.length := l1.length.symm
            have st : Stay H1 (upd H1 a (.ins Ca dx (putF f u vs))) := Stay.write e2 (fun _ z => nomatch z) (fun _ _ z => nomatch z)
            refine ⟨a, Ca, dx, vs, e1, e2, (cf.ex Ca hC).1, (cf.ex Ca hC).2, by omega, h1 r1 σ _ s1 (t1.trans st) (S.mono (t1.trans st) s1) ?_⟩
            exact M1.write r2 hm e2 (fun _ z => nomatch z) (fun _ _ z => nomatch z) rfl rfl ⟨Ca, dx, _, hC, upd_same, (SimF.put f (q.mono t1 s1) l1).mono st (Sub.refl _)⟩
          · cases he
        · exact h1.elim
      | _ => simp [MP.putFld, hm] at h1
  | _ => simp [MP.putFld] at h1
end
/-- a class's method -/
def clsAt (s : Stmt) (j : Nat) : Stmt := match s with
  | .ClassDef _ _ _ body _ _ _ _ _ _ _ => body.getD j (.Pass ⟨0, 0, 0, 0⟩)
  | _ => .Pass ⟨0, 0, 0, 0⟩
theorem cf_of {K : PySem.W.Frag} {mg : Str → Option Value} {C f : Str} (g : mg C = some (.ref (He.ga K C))) (c : (He.Fa.cls C).ok K = true) (n : (He.Fa.noat C f).ok K = true) : CF K mg C f := ⟨fun Ca h => by
  have e := h.symm.trans g
  cases e
  exact ⟨He.cls_ok c, He.noat_ok n⟩⟩
end ML

/-! MLinkX: sorted of tuples that begin with texts. -/
namespace SrtX
open PySem PySem.W PySem.Calls PyProof.Rows PyProof.V PySem.Spec SrtO
/-- v is a tuple that begins with the text x -/
def IsTx (h : Heap) (v : Value) (x : PySem.Str) : Prop := ∃ (a : Addr) (o : Obj) (t : Tok) (rest : List Value) (n : Nat), v = .ref a ∧ h.get? a = some o ∧ o.cls = .type "tuple" ∧ o.data = .seq (Value.str x t :: rest).toArray n
theorem IsTx.keeps {h h' : Heap} {v : Value} {x : PySem.Str} (p : IsTx h v x) (k : ∀ b o, h.get? b = some o → o.cls = .type "tuple" → h'.get? b = some o) : IsTx h' v x := by
  obtain ⟨a, o, t, rest, n, e, ho, hc, hd⟩ := p
  exact ⟨a, o, t, rest, n, e, k _ _ ho hc, hc, hd⟩
def ltS (x y : PySem.Str) : Bool := decide (x.cps.toList < y.cps.toList)
theorem ltS_le (x y : PySem.Str) : MP.leS y x = !ltS x y := rfl
theorem ltS_irr (x : PySem.Str) : ltS x x = false := by
  have h : MP.leS x x = true := by rcases MP.leS_total x x with h | h <;> exact h
  rw [ltS_le] at h
  simpa using h
theorem swo_str {α : Type} (k : α → PySem.Str) : Swo fun v u => ltS (k v) (k u) := by
  refine ⟨fun x y h => ?_, fun x y z h1 h2 => ?_⟩
  · have a : MP.leS (k y) (k x) = false := by rw [ltS_le, h]; rfl
    rcases MP.leS_total (k y) (k x) with b | b
    · rw [a] at b; cases b
    · rw [ltS_le] at b; simpa using b
  · have a : MP.leS (k x) (k y) = true := by rw [ltS_le, h1]; rfl
    have b : MP.leS (k y) (k z) = true := by rw [ltS_le, h2]; rfl
    have c := MP.leS_trans a b
    rw [ltS_le] at c
    simpa using c
section
variable {prog : Program} {w : World} {A : Around} {E : Value → Shared → Prop} {s : Shared}
theorem kat_self {Q : Bool → Shared → Prop} (h : Q false s) : ∀ (l : List Value) (i : Nat), KatLex prog w A true false Q (l.zip l) i s
  | [], i => kat_nil h
  | v :: l, i => by
    show KatLex prog w A true false Q ((v, v) :: l.zip l) i s
    refine kat_cons (PySem.SeqAt.EqAt.same v prog w _ _ ?_)
    exact kat_yes (kat_self h l (i + 1))
theorem tx_cmp {vs : List Value} {k : Value → PySem.Str} (hp : ∀ v ∈ vs, IsTx s.heap v (k v)) (inj : ∀ v ∈ vs, ∀ u ∈ vs, k v = k u → v = u) : Cmp prog w A s (tuples' true) (fun p => p.1 ∈ vs) (lt2 fun v u => ltS (k v) (k u)) := by
  intro p q hm hm'
  have h1 := hp _ hm
  have h2 := hp _ hm'
  show wpAny (model prog w) A (keyLt' (tuples' true) p.1 q.1) (fun r s' => s' = s ∧ r = ltS (k p.1) (k q.1)) (fun _ _ => False) s
  by_cases e : k p.1 = k q.1
  · have e2 := inj _ hm _ hm' e
    rw [e, ltS_irr, e2]
    rw [e2] at h1
    obtain ⟨a, o, t, rest, n, ev, ho, hc, hd⟩ := h1
    rw [ev]
    refine kat_lt ho hd ho hd ?_
    have f0 : decide ((Value.str (k q.1) t :: rest).toArray.size < (Value.str (k q.1) t :: rest).toArray.size) = false := decide_eq_false (Nat.lt_irrefl _)
    rw [f0]
    exact kat_self ⟨rfl, rfl⟩ _ 0
  · obtain ⟨a, o, t, rest, n, ev, ho, hc, hd⟩ := h1
    obtain ⟨a', o', t', rest', n', ev', ho', hc', hd'⟩ := h2
    generalize k p.1 = x at e hd ⊢
    generalize k q.1 = y at e hd' ⊢
    rw [ev, ev']
    refine kat_lt ho hd ho' hd' ?_
    show KatLex prog w A true _ _ ((Value.str x t, Value.str y t') :: rest.zip rest') 0 s
    refine kat_cons (PySem.SeqAt.EqAt.str_str x t y t' prog w _ _ ?_)
    refine kat_go (fun e0 => absurd (by simpa using e0) e) (fun _ => ?_)
    exact kat_no (oneLt_str ⟨rfl, rfl⟩)
theorem firsts_tx {h : Heap} {k : Value → PySem.Str} : ∀ {vs : List Value}, (∀ v ∈ vs, IsTx h v (k v)) → ∃ fs : List Value, KatTups h vs fs ∧ fs.length = vs.length ∧ ∀ f ∈ fs, ∃ x t, f = Value.str x t
  | [], _ => ⟨[], KatTups.nil, rfl, fun _ hm => by simp at hm⟩
  | v :: vs, hp => by
    obtain ⟨fs, h1, h2, h3⟩ := firsts_tx (vs := vs) fun v' hm => hp v' (List.mem_cons_of_mem _ hm)
    obtain ⟨a, o, t, rest, n, e, ho, hc, hd⟩ := hp v List.mem_cons_self
    refine ⟨.str (k v) t :: fs, ?_, by rw [List.length_cons, List.length_cons, h2], fun f hm => ?_⟩
    · rw [e] at hd ⊢
      exact KatTups.cons ho hc hd rfl h1
    rcases List.mem_cons.mp hm with rfl | hm
    · exact ⟨_, t, rfl⟩
    · exact h3 f hm
theorem txs_sortableO {a : Addr} {vs : List Value} {k : Value → PySem.Str} (h0 : 0 < vs.length) (hp : ∀ v ∈ vs, IsTx s.heap v (k v)) (inj : ∀ v ∈ vs, ∀ u ∈ vs, k v = k u → v = u) (ha : ∀ o, s.heap.get? a = some o → o.cls ≠ .type "tuple") : SortableO prog w A s a vs fun v u => ltS (k v) (k u) := by
  intro h' keep
  have hp' : ∀ v ∈ vs, IsTx h' v (k v) := fun v hm => (hp v hm).keeps fun b o e c => keep b o (fun z => by subst z; exact ha o e c) e
  obtain ⟨fs, h1, h2, h3⟩ := firsts_tx hp'
  refine ⟨tuples' true, fun Q E hq => ?_, tx_cmp hp' inj⟩
  refine kat_kind (T := .type "str") h1 (by omega) (fun f hm => ?_) (by rfl) ?_
  · obtain ⟨x, t, rfl⟩ := h3 f hm
    exact PySem.W.Looks.now
  · have e : (Value.type "str" != Value.type "tuple") = true := by first | decide +kernel | rfl | decide
    rw [e]
    exact hq
theorem sorted_txs {l : Addr} {vs : List Value} {k : Value → PySem.Str} {Q : Value → Shared → Prop} (hl : s.heap.IsList l vs.toArray) (hz : vs.length ≤ sizeLine) (hp : ∀ v ∈ vs, IsTx s.heap v (k v)) (inj : ∀ v ∈ vs, ∀ u ∈ vs, k v = k u → v = u)
    (h : ∀ (h' : Heap) (d : Addr) (out : List Value), Srtd (fun v u => ltS (k v) (k u)) out → Stb (fun v u => ltS (k v) (k u)) out vs → (∀ b o, s.heap.get? b = some o → h'.get? b = some o) → s.heap.objs.size ≤ d → (∃ n, h'.get? d = some (seqObj "list" out.toArray n)) → Q (.ref d) { s with heap := h' }) :
    wpAny (model prog w) A (call (.builtin "sorted") [.ref l]) Q E s := by
  refine sorted_ord (swo_str k) hl hz (fun h2 h₁ a ha kk => ?_) fun out hs hb => ?_
  · refine txs_sortableO (s := { s with heap := h₁ }) (by omega) (fun v hm => (hp v hm).keeps fun b o e _ => (kk b o e).2) inj fun o e => ?_
    have e' : some o = some (seqObj "list" vs.toArray 0) := e.symm.trans ha
    cases e'
    intro c
    exact absurd (Value.type.inj c) (by decide)
  · exact h _ _ out hs hb (fun b o e => sortedAll_old e) (Nat.le_succ _) (sortedAll_at s.heap vs out.toArray)
end
end SrtX
namespace ML
open PySem PySem.Spec PyProof.Rows L2
open MP (MV MO Mem Fr ME MA MT MS MG MI MFn Res SR)
/-- x is a tuple that begins with the text s -/
def Hd (K : PySem.W.Frag) (H : Hp) (x : V) (s : PySem.Str) : Prop := ∃ t ys, x = V.ref t ∧ SqT K H t (.str s :: ys)
def HdL (K : PySem.W.Frag) (H : Hp) (xs : List V) (ks : List PySem.Str) : Prop := xs.length = ks.length ∧ ∀ (i : Nat) (x : V) (s : PySem.Str), xs[i]? = some x → ks[i]? = some s → Hd K H x s
/-- the name of x, by a list of pairs -/
def nameIn (l : List (V × PySem.Str)) (x : V) : PySem.Str := ((l.find? fun z => decide (z.1 = x)).map (·.2)).getD Str.empty
section
variable {X : Cx}
theorem Hd.uniq {pins : List (Addr × Obj)} {s : Shared} {σ : L2.St} {H : Hp} {x : V} {a b : PySem.Str} (I : Inv X pins σ H s) (h1 : Hd X.K H x a) (h2 : Hd X.K H x b) : a = b := by
  obtain ⟨t, ys, e, q⟩ := h1
  obtain ⟨t', ys', e', q'⟩ := h2
  rw [e] at e'; cases e'
  have := I.tuple_inj q q'
  injection this with this _
  injection this
theorem nameIn_at {pins : List (Addr × Obj)} {s : Shared} {σ : L2.St} {H : Hp} {xs : List V} {ks : List PySem.Str} (I : Inv X pins σ H s) (h : HdL X.K H xs ks) {i : Nat} {x : V} {a : PySem.Str} (h1 : xs[i]? = some x) (h2 : ks[i]? = some a) : nameIn (xs.zip ks) x = a := by
  have hz : (xs.zip ks)[i]? = some (x, a) := List.getElem?_zip_eq_some.mpr ⟨h1, h2⟩
  cases hf : (xs.zip ks).find? (fun z => decide (z.1 = x)) with
  | none =>
    have := List.find?_eq_none.mp hf (x, a) (List.mem_of_getElem? hz)
    simp at this
  | some z =>
    unfold nameIn
    rw [hf]
    have e1 : z.1 = x := by simpa using List.find?_some hf
    obtain ⟨j, hj⟩ := List.mem_iff_getElem?.mp (List.mem_of_find?_eq_some hf)
    obtain ⟨j1, j2⟩ := List.getElem?_zip_eq_some.mp hj
    have q1 := h.2 j z.1 z.2 j1 j2
    rw [e1] at q1
    exact q1.uniq I (h.2 i x a h1 h2)
/-- sorted(xs), xs tuples that begin with the texts ks, unlike ones -/
def rSortTx (K : PySem.W.Frag) : List V → Hp → VK → Prop := fun vs H Q => ∃ (a : Addr) (xs : List V) (ks : List PySem.Str), vs = [V.ref a] ∧ SqL K H a xs ∧ HdL K H xs ks ∧ ks.Nodup ∧
  ∀ (zs : List (V × PySem.Str)) p, zs.Perm (xs.zip ks) → zs.Pairwise (fun x y => MP.leS x.2 y.2 = true) → H p = none → Q (.ref p) (upd H p (.lst (zs.map (·.1))))
theorem names_key {pins : List (Addr × Obj)} {s : Shared} {σ : L2.St} {H : Hp} {xs : List V} {ks : List PySem.Str} (I : Inv X pins σ H s) (h : HdL X.K H xs ks) : xs.map (fun x => (x, nameIn (xs.zip ks) x)) = xs.zip ks := by
  refine List.ext_getElem? fun i => ?_
  rw [List.getElem?_map]
  cases e : xs[i]? with
  | none =>
    have h1 := List.getElem?_eq_none_iff.mp e
    have : (xs.zip ks)[i]? = none := List.getElem?_eq_none_iff.mpr (by rw [List.length_zip]; omega)
    rw [this]; rfl
  | some x =>
    have h1 : i < ks.length := by rw [← h.1]; exact (List.getElem?_eq_some_iff.mp e).1
    have e2 : ks[i]? = some ks[i] := List.getElem?_eq_getElem h1
    have := nameIn_at I h e e2
    simp only [Option.map_some, this]
    exact (List.getElem?_zip_eq_some.mpr ⟨e, e2⟩).symm
theorem cr_sortTx : CallR X (.builtin "sorted") (rSortTx X.K) := by
  intro pins s σ H vs us Q I r h
  obtain ⟨a, xs, ks, rfl, hs, hx, nd, q⟩ := h
  obtain ⟨its, rv, hl, hz⟩ := I.list hs
  obtain ⟨u, rfl, ru⟩ := vals1 r
  obtain rfl : u = Value.ref a := ru
  have hmem : ∀ x ∈ xs, ∃ (i : Nat) (a : PySem.Str), xs[i]? = some x ∧ ks[i]? = some a ∧ nameIn (xs.zip ks) x = a ∧ Hd X.K H x a := fun x m => by
    obtain ⟨i, hi⟩ := List.mem_iff_getElem?.mp m
    have h1 : i < ks.length := by rw [← hx.1]; exact (List.getElem?_eq_some_iff.mp hi).1
    have e2 : ks[i]? = some ks[i] := List.getElem?_eq_getElem h1
    exact ⟨i, _, hi, e2, nameIn_at I hx hi e2, hx.2 i _ _ hi e2⟩
  obtain ⟨e1, e2⟩ := refs_back rv fun x m => by
    obtain ⟨_, _, _, _, _, t, _, e, _⟩ := hmem x m
    exact ⟨t, e⟩
  have inj : ∀ x ∈ xs, ∀ y ∈ xs, nameIn (xs.zip ks) x = nameIn (xs.zip ks) y → x = y := fun x hx' y hy' e => by
    obtain ⟨i, b, i1, i2, i3, _⟩ := hmem x hx'
    obtain ⟨j, c, j1, j2, j3, _⟩ := hmem y hy'
    have : i = j := (List.getElem?_inj (List.getElem?_eq_some_iff.mp i2).1 nd).mp (by rw [i2, j2, ← i3, ← j3, e])
    subst this
    rw [i1] at j1; cases j1; rfl
  refine SrtX.sorted_txs (k := fun u => nameIn (xs.zip ks) (backV u)) hl.isList (by rw [← rv.length]; exact hz) (fun v hv => ?_) (fun v hv u hu e => ?_) fun h' d out h1 h2 kp hd hn => ?_
  · obtain ⟨t, rfl⟩ := e2 v hv
    have hm : V.ref t ∈ xs := by rw [e1]; exact List.mem_map.mpr ⟨_, hv, rfl⟩
    obtain ⟨_, b, _, _, hb, t', ys, e, ht⟩ := hmem _ hm
    cases e
    obtain ⟨its2, r2, ⟨o, ho, hc, n, hd⟩, _⟩ := I.tuple ht
    cases r2 with
    | cons ru rr =>
      rename_i rest
      obtain ⟨t1, rfl⟩ := ru
      rw [← hb] at hd
      exact ⟨t, o, t1, rest, n, rfl, ho, hc, hd⟩
  · obtain ⟨t, rfl⟩ := e2 v hv
    obtain ⟨t', rfl⟩ := e2 u hu
    have hm : V.ref t ∈ xs := by rw [e1]; exact List.mem_map.mpr ⟨_, hv, rfl⟩
    have hm' : V.ref t' ∈ xs := by rw [e1]; exact List.mem_map.mpr ⟨_, hu, rfl⟩
    have := inj _ hm _ hm' e
    injection this with this
    rw [this]
  · have h3 : ∀ u ∈ out, ∃ a, u = Value.ref a := fun u hu => e2 u (h2.perm.mem_iff.mp hu)
    obtain ⟨n, hn⟩ := hn
    have hb : (out.map backV).Perm xs := by
      rw [e1]
      exact h2.perm.map _
    have hq := q ((out.map backV).map fun x => (x, nameIn (xs.zip ks) x)) d ((hb.map _).trans (List.Perm.of_eq (names_key I hx))) (by
      rw [List.map_map, List.pairwise_map]
      refine List.Pairwise.imp (fun {x y} h => ?_) h1
      show MP.leS (nameIn (xs.zip ks) (backV x)) (nameIn (xs.zip ks) (backV y)) = true
      rw [SrtX.ltS_le]
      have h' : SrtX.ltS (nameIn (xs.zip ks) (backV y)) (nameIn (xs.zip ks) (backV x)) = false := h
      rw [h']; rfl) (I.hok.fresh hd)
    rw [List.map_map] at hq
    have em : List.map ((fun x : V × PySem.Str => x.1) ∘ fun x => (x, nameIn (xs.zip ks) x)) (out.map backV) = out.map backV := by
      have : ((fun x : V × PySem.Str => x.1) ∘ fun x => (x, nameIn (xs.zip ks) x)) = id := rfl
      rw [this, List.map_id]
    rw [em] at hq
    refine ⟨.ref d, upd H d (.lst (out.map backV)), I.laid (t' := s.toks) kp hd ⟨?_, out, n, vals_back h3, hn⟩, rfl, hq⟩
    rw [hb.length_eq]
    exact hz
end
/-! the values of MP -/
theorem simL_get {K : PySem.W.Frag} {ex : ExH} {rho : Rho} {H : Hp} : ∀ {xs : List MV} {vs : List V}, SimL K ex rho H xs vs → ∀ (i : Nat) (x : MV) (v : V), xs[i]? = some x → vs[i]? = some v → SimV K ex rho H x v
  | [], vs, h, i, x, v, e, _ => by simp at e
  | y :: xs, vs, h, i, x, v, e1, e2 => by
    obtain ⟨v', vs', rfl, q, l⟩ := h.inv_cons
    cases i with
    | zero => simp at e1 e2; subst e1 e2; exact q
    | succ i => exact simL_get l i x v (by simpa using e1) (by simpa using e2)
theorem simL_of {K : PySem.W.Frag} {ex : ExH} {rho : Rho} {H : Hp} {α : Type} (f : α → MV) (g : α → V) : ∀ {l : List α}, (∀ z ∈ l, SimV K ex rho H (f z) (g z)) → SimL K ex rho H (l.map f) (l.map g)
  | [], _ => SimL.nil
  | z :: l, h => SimL.cons (h z List.mem_cons_self) (simL_of f g fun z hz => h z (List.mem_cons_of_mem _ hz))
/-- what is sorted stands for what is sorted -/
theorem sort_sim {K : PySem.W.Frag} {rho : Rho} {H : Hp} {xs : List MV} {vs : List V} (l : SimL K none rho H xs vs) (nd : (xs.map MP.headOf).Nodup) {zs : List (V × PySem.Str)} (p : zs.Perm (vs.zip (xs.map MP.headOf))) (pw : zs.Pairwise (fun x y => MP.leS x.2 y.2 = true)) :
    SimL K none rho H (MP.sortT xs) (zs.map (·.1)) := by
  have hlen := l.length
  have ez : ∀ {xs : List MV} {vs : List V}, xs.length = vs.length → (xs.zip vs).map (fun z : MV × V => (z.2, MP.headOf z.1)) = vs.zip (xs.map MP.headOf) := by
    intro xs
    induction xs with
    | nil => intro vs h; cases vs <;> first | rfl | cases h
    | cons x xs ih =>
      intro vs h
      cases vs with
      | nil => cases h
      | cons v vs =>
        rw [List.zip_cons_cons, List.map_cons, List.map_cons, List.zip_cons_cons, ih (by simpa using h)]
  have ef : (xs.zip vs).map (·.1) = xs := List.map_fst_zip (by omega)
  obtain ⟨T, pT, eT⟩ := perm_lift (fun z : MV × V => (z.2, MP.headOf z.1)) p (xs.zip vs) (ez hlen)
  have p1 : (T.map (·.1)).Perm xs := (pT.map _).trans (List.Perm.of_eq ef)
  have pw1 : (T.map (·.1)).Pairwise (fun a b => MP.leT a b = true) := by
    rw [← eT, List.pairwise_map] at pw
    rw [List.pairwise_map]
    exact pw
  have e1 : T.map (·.1) = MP.sortT xs := MP.sortT_is nd p1 pw1
  have e2 : zs.map (·.1) = T.map (·.2) := by rw [← eT, List.map_map]; rfl
  rw [← e1, e2]
  refine simL_of _ _ fun z hz => ?_
  obtain ⟨i, hi⟩ := List.mem_iff_getElem?.mp (pT.mem_iff.mp hz)
  obtain ⟨h1, h2⟩ := List.getElem?_zip_eq_some.mp hi
  exact simL_get l i _ _ h1 h2
theorem heads_sim {K : PySem.W.Frag} {rho : Rho} {H : Hp} {xs : List MV} {vs : List V} (l : SimL K none rho H xs vs) (h : ∀ x ∈ xs, ∃ s r, x = .tup (.str s :: r)) : HdL K H vs (xs.map MP.headOf) := by
  refine ⟨by rw [List.length_map, l.length], fun i v s h1 h2 => ?_⟩
  rw [List.getElem?_map] at h2
  cases e : xs[i]? with
  | none => rw [e] at h2; cases h2
  | some x =>
    rw [e] at h2
    have h2 : MP.headOf x = s := by simpa using h2
    have q := simL_get l i x v e h1
    obtain ⟨s', r, rfl⟩ := h x (List.mem_of_getElem? e)
    have e' : s' = s := h2
    subst e'
    unfold SimV at q
    obtain ⟨p, vs', e1, e2, _, l2⟩ := q
    obtain ⟨v', vs'', rfl, q3, _⟩ := l2.inv_cons
    unfold SimV at q3
    subst q3
    exact ⟨p, _, e1, e2⟩
section
variable {X : Cx}
def rSortAny (X : Cx) : List V → Hp → VK → Prop := fun xs H Q => (rSortM X xs H Q ∨ rSortTx X.K xs H Q) ∨ ∃ (a : Addr) (kvs : List (Key × V)) (ks : List Int), xs = [.ref a] ∧ Rd H a (.dK kvs) ∧ kvs.map (·.1) = ks.map Sum.inl ∧ ks.length < 64 ∧
    ∀ (ys : List Int) (p : Addr), ys.Perm ks → ys.Pairwise (· ≤ ·) → H p = none → Q (.ref p) (upd H p (.lst (ys.map V.int)))
theorem call_sortAny (hc : X.calm = true) : CallR X (.builtin "sorted") (rSortAny X) := CallR.or (CallR.or (call_sortM hc) cr_sortTx) (call_sortedDI hc)
theorem keysI_at {K : PySem.W.Frag} {rho : Rho} {H : Hp} : ∀ {kvs : List (Key × MV)} {vs : List (Key × V)} {ks : List Int}, SimP K none rho H kvs vs → MP.keysI kvs = some ks → vs.map (·.1) = ks.map Sum.inl
  | [], vs, ks, l, h => by cases l; cases h; rfl
  | (k, x) :: r, vs, ks, l, h => by
    cases l with
    | cons q t =>
      rename_i z zs
      cases k with
      | inr s => cases h
      | inl i =>
        have h' : (MP.keysI r).map (i :: ·) = some ks := h
        cases e : MP.keysI r with
        | none => rw [e] at h'; cases h'
        | some ks' =>
          rw [e] at h'; cases h'
          rw [List.map_cons, List.map_cons, keysI_at t e]
          have : z.1 = Sum.inl i := q.1.symm
          rw [this]
theorem SimL.ints' {K : PySem.W.Frag} {ex : ExH} {rho : Rho} {H : Hp} (ns : List Int) : SimL K ex rho H (ns.map MV.int) (ns.map V.int) := SimL.ints ns
theorem good_sortAny : GoodR1n X (fun v H Q => rSortAny X [v] H Q) MP.oSortAny := fun rho mem H x v Q E q1 M q => by
  cases x with
  | ref n =>
    cases hm : mem[n]? with
    | none => simp [MP.oSortAny, hm] at q
    | some o => cases o with
      | lst xs =>
        cases e2 : MP.strsOf xs with
        | none =>
          cases e3 : MP.heads xs with
          | none => simp [MP.oSortAny, hm, e2, e3] at q
          | some ks =>
            simp only [MP.oSortAny, hm, e2, e3] at q
            split at q
            · rename_i nd
              obtain ⟨p, vs, rfl, _, s1, l1⟩ := lst_at M q1 hm
              obtain ⟨ek, hh⟩ := MP.heads_map e3
              subst ek
              refine .inl (.inr ⟨p, vs, _, rfl, SqL.of s1, heads_sim l1 hh, nd, fun zs p' pe pw hn => ?_⟩)
              exact lst_new q M (sort_sim l1 nd pe pw) p' hn
            · exact q.elim
        | some ks =>
          simp only [MP.oSortAny, hm, e2] at q
          split at q
          · rename_i hc
            obtain ⟨p, vs, rfl, _, s1, l1⟩ := lst_at M q1 hm
            have ev := strs_at l1 e2
            subst ev
            refine .inl (.inl (.inl ⟨p, ks, rfl, SqL.of s1, hc, fun ys p' pe se hn => ?_⟩))
            rw [sorted_is pe se]
            exact lst_new q M (SimL.strs _) p' hn
          · exact q.elim
      | dct lk kvs =>
        cases e2 : MP.keysS kvs with
        | none =>
          cases e3 : MP.keysI kvs with
          | none => simp [MP.oSortAny, hm, e2, e3] at q
          | some ks =>
            simp only [MP.oSortAny, hm, e2, e3] at q
            split at q
            · rename_i hc
              obtain ⟨p, vs, rfl, _, s1, l1⟩ := dct_at M q1 hm
              refine .inr ⟨p, vs, ks, rfl, s1, keysI_at l1 e3, hc, fun ys p' pe se hn => ?_⟩
              rw [MP.sortI_is pe se]
              exact lst_new q M (SimL.ints' _) p' hn
            · exact q.elim
        | some ks =>
          simp only [MP.oSortAny, hm, e2] at q
          split at q
          · rename_i hc
            obtain ⟨p, vs, rfl, _, s1, l1⟩ := dct_at M q1 hm
            refine .inl (.inl (.inr ⟨p, vs, ks, rfl, s1, keysS_at l1 e2, hc, fun ys p' pe se hn => ?_⟩))
            rw [sorted_is pe se]
            exact lst_new q M (SimL.strs _) p' hn
          · exact q.elim
      | _ => simp [MP.oSortAny, hm] at q
  | _ => exact q.elim
theorem nx_sortAny : NoEx1 MP.oSortAny := fun x m c m' h => by
  unfold MP.oSortAny MP.new at h
  repeat' split at h
  all_goals cases h
end
end ML

/-! MLinkY: sorted(d.items()), list(d.values()). -/
namespace ML
open PySem PySem.Spec PyProof.Rows L2 L2.DX
open MP (MV MO Mem Fr ME MA MT MS MG MI MFn Res SR)
section
variable {X : Cx}
def rItemsK : V → List V → Hp → VK → Prop := fun x xs H Q => ∃ (a : Addr) (kvs : List (Key × V)), x = .ref a ∧ xs = [] ∧ H a = some (.dK kvs) ∧ ∀ p, H p = none → Q (.ref p) (upd H p (itemsO p a))
theorem mt_itemsK : MtR X "dict.items" rItemsK := by
  intro pins s σ H x xs v us Q I rx rxs h
  obtain ⟨a, kvs, rfl, rfl, ha, q⟩ := h
  cases rx
  cases rxs
  obtain ⟨z, hd, vs, rel, o, es, ep, ho, hx, hdat, _⟩ := dk_of I.hok ha
  refine DT.callItems (es := es) (ep := ep) hd ⟨o, ho, hx, hdat⟩ ?_
  have hf : H s.heap.objs.size = none := I.hok.fresh (Nat.le_refl _)
  exact ⟨.ref s.heap.objs.size, upd H s.heap.objs.size (itemsO s.heap.objs.size a), I.laid (t' := s.toks) (fun b u e => Heap.get?_push_of_some _ e) (Nat.le_refl _) (itemsO_ok (Heap.get?_push_size _ rfl)), rfl, q _ hf⟩
/-- the name of the value v, by addresses and names -/
def nameOf (l : List (Addr × PySem.Str)) (v : Value) : PySem.Str := ((l.find? fun z => match v with | .ref a => decide (z.1 = a) | _ => false).map (·.2)).getD Str.empty
theorem nameOf_at {as : List Addr} {ks : List PySem.Str} (nd : as.Nodup) {i : Nat} {b : Addr} {k : PySem.Str} (h1 : as[i]? = some b) (h2 : ks[i]? = some k) : nameOf (as.zip ks) (.ref b) = k := by
  have hz : (as.zip ks)[i]? = some (b, k) := List.getElem?_zip_eq_some.mpr ⟨h1, h2⟩
  unfold nameOf
  cases hf : (as.zip ks).find? (fun z => match (Value.ref b) with | .ref a => decide (z.1 = a) | _ => false) with
  | none =>
    have := List.find?_eq_none.mp hf (b, k) (List.mem_of_getElem? hz)
    simp at this
  | some z =>
    have e1 : z.1 = b := by simpa using List.find?_some hf
    obtain ⟨j, hj⟩ := List.mem_iff_getElem?.mp (List.mem_of_find?_eq_some hf)
    obtain ⟨j1, j2⟩ := List.getElem?_zip_eq_some.mp hj
    rw [e1] at j1
    have : j = i := (List.getElem?_inj (List.getElem?_eq_some_iff.mp j1).1 nd).mp (by rw [j1, h1])
    subst this
    rw [j2] at h2; cases h2; rfl
def rSortItK : List V → Hp → VK → Prop := fun vs H Q => ∃ (p a : Addr) (kvs : List (Key × V)) (ks : List PySem.Str), vs = [.ref p] ∧ H p = some (itemsO p a) ∧ H a = some (.dK kvs) ∧ kvs.map (·.1) = ks.map Sum.inr ∧ ks.Nodup ∧
  ∀ (H' : Hp) (l : Addr) (zs : List (Addr × (Key × V) × PySem.Str)), (∀ b o, H b = some o → H' b = some o) → (zs.map (·.2)).Perm (kvs.zip ks) → zs.Pairwise (fun x y => MP.leS x.2.2 y.2.2 = true) → H l = none → H' l = some (.lst (zs.map fun z => V.ref z.1)) →
    (∀ z ∈ zs, H' z.1 = some (.tup [kV z.2.1.1, z.2.1.2])) → Q (.ref l) H'
theorem cr_sortItK (hc : X.calm = true) : CallR X (.builtin "sorted") rSortItK := by
  intro pins s σ H xs us Q I r h
  obtain ⟨p, a, kvs, ks, rfl, hp, ha, hks, nks, q⟩ := h
  obtain rfl := Vals.ref1 r
  have view : s.heap.IsItemsView p a := (show ObjOk X.prog X.w H s.heap p (itemsO p a) from I.hok p _ hp).1
  obtain ⟨z, lo, vs, rel, o, es, ep, ho, hx, hdat, hkeys, hprs, hn⟩ := dk_of I.hok ha
  have l1 : kvs.length = vs.length := Paired.length rel
  have l2 : es.size = vs.length := by rw [← hprs.length]; simp
  have lk : kvs.length = ks.length := by
    have e := congrArg List.length hks
    rwa [List.length_map, List.length_map] at e
  have hh : X.A.handled = none := I.ok.hd hc
  refine DT.sortedI (es := es) (ep := ep) hh view ⟨o, ho, hx, hdat⟩ (by rw [l2, ← l1]; exact z) fun h' tk as hk hlt hl hG => ?_
  have lak : as.length = ks.length := by omega
  have nd : as.Nodup := List.Pairwise.imp (fun h => Nat.ne_of_lt h) hG.rise
  -- the pairs that were made
  have pr : ∀ (j : Nat) (b : Addr), as[j]? = some b → ∃ (e : Key × V) (k : PySem.Str) (t : Tok) (u : Value), kvs[j]? = some e ∧ ks[j]? = some k ∧ e.1 = Sum.inr k ∧ RelV e.2 u ∧ h'.get? b = some { cls := .type "tuple", data := .seq #[Value.str k t, u] } := by
    intro j b hj
    have jl : j < as.length := (List.getElem?_eq_some_iff.mp hj).1
    obtain ⟨en, he, hg⟩ := hG.pairs j b hj
    have hv : vs[j]? = some vs[j] := List.getElem?_eq_getElem (by omega)
    have hkv : kvs[j]? = some kvs[j] := List.getElem?_eq_getElem (by omega)
    have hkk : ks[j]? = some ks[j] := List.getElem?_eq_getElem (by omega)
    obtain ⟨e0, he0, r1, r2⟩ := pget rel hv
    rw [hkv] at he0; cases he0
    have ek : kvs[j].1 = Sum.inr ks[j] := by
      have e := congrArg (fun l => l[j]?) hks
      simp only [List.getElem?_map, hkv, hkk, Option.map_some, Option.some.injEq] at e
      exact e
    have q1 := hprs.get? (e := en) (k := vs[j].1) (v := vs[j].2) (by rw [Array.getElem?_toList]; exact he) hv
    rw [← r1, ek] at q1
    have q2 : RelV (kV (Sum.inr ks[j])) en.key := relV_key q1.1
    obtain ⟨t, ht⟩ := (show ∃ t, en.key = Value.str ks[j] t from q2)
    refine ⟨kvs[j], ks[j], t, vs[j].2, hkv, hkk, ek, r2, ?_⟩
    rw [hg, ht, q1.2]
  -- the heap of the sort
  have hob : (h'.push { cls := .type "list", data := .seq (as.map Value.ref).toArray }).get? h'.objs.size = some (seqObj "list" (as.map Value.ref).toArray 0) := Heap.get?_push_size _ rfl
  have kb : ∀ b o, s.heap.get? b = some o → (h'.push { cls := .type "list", data := .seq (as.map Value.ref).toArray }).get? b = some o := fun b o e => Heap.get?_push_of_some _ (hk b o e)
  have ne0 : ∀ b o, h'.get? b = some o → b ≠ h'.objs.size := fun b o e => Nat.ne_of_lt (Heap.lt_size e)
  generalize hh2 : h'.push { cls := .type "list", data := .seq (as.map Value.ref).toArray } = h2 at hob kb ⊢
  have ka : ∀ b o, h'.get? b = some o → h2.get? b = some o := fun b o e => by rw [← hh2]; exact Heap.get?_push_of_some _ e
  have at_ : ∀ v ∈ as.map Value.ref, ∃ (j : Nat) (b : Addr), v = .ref b ∧ as[j]? = some b := by
    intro v hv'
    obtain ⟨b, hb, rfl⟩ := List.mem_map.mp hv'
    obtain ⟨j, hj⟩ := List.mem_iff_getElem?.mp hb
    exact ⟨j, b, rfl, hj⟩
  have tx : ∀ v ∈ as.map Value.ref, SrtX.IsTx h2 v (nameOf (as.zip ks) v) := by
    intro v hv'
    obtain ⟨j, b, rfl, hj⟩ := at_ v hv'
    obtain ⟨e, k, t, u, e1, e2, e3, e4, hg⟩ := pr j b hj
    rw [nameOf_at nd hj e2]
    exact ⟨b, _, t, [u], 0, rfl, ka _ _ hg, rfl, rfl⟩
  have inj : ∀ v ∈ as.map Value.ref, ∀ u ∈ as.map Value.ref, nameOf (as.zip ks) v = nameOf (as.zip ks) u → v = u := by
    intro v hv' u hu' e
    obtain ⟨j, b, rfl, hj⟩ := at_ v hv'
    obtain ⟨j2, b2, rfl, hj2⟩ := at_ u hu'
    have k1 : ks[j]? = some (ks[j]'(by have := (List.getElem?_eq_some_iff.mp hj).1; omega)) := List.getElem?_eq_getElem _
    have k2 : ks[j2]? = some (ks[j2]'(by have := (List.getElem?_eq_some_iff.mp hj2).1; omega)) := List.getElem?_eq_getElem _
    rw [nameOf_at nd hj k1, nameOf_at nd hj2 k2] at e
    have : j = j2 := (List.getElem?_inj (List.getElem?_eq_some_iff.mp k1).1 nks).mp (by rw [k1, k2, e])
    subst this
    rw [hj] at hj2; cases hj2; rfl
  refine wpAny_call_entry PyProof.Rows.slot_list_sort ⟨_, hob, rfl⟩ PyProof.Rows.entry_list_sort
    (SrtO.list_sort_ord (s := { s with heap := h2, toks := tk }) (SrtX.swo_str (nameOf (as.zip ks))) hob (by rw [List.length_map]; omega) (fun h2' => ?_) fun out o1 o2 => ⟨.none, rfl, ?_⟩) (PyProof.Rows.args_list_sort _)
  · refine SrtX.txs_sortableO (s := { s with heap := h2, toks := tk }) (by omega) tx inj fun ob e => ?_
    have e' : some ob = some (seqObj "list" (as.map Value.ref).toArray 0) := e.symm.trans hob
    cases e'
    intro c
    exact absurd (Value.type.inj c) (by decide)
  · show EP X pins σ Q (.ref h'.objs.size) { s with heap := sortedHeap h2 h'.objs.size (as.map Value.ref) out.toArray, toks := tk }
    have el : (kvs.zip ks).length = as.length := by rw [List.length_zip]; omega
    obtain ⟨zs, pz, ez⟩ := perm_lift (fun z : Addr × (Key × V) × PySem.Str => Value.ref z.1) o2.perm (as.zip (kvs.zip ks)) (by
      have : (as.zip (kvs.zip ks)).map (fun z : Addr × (Key × V) × PySem.Str => Value.ref z.1) = ((as.zip (kvs.zip ks)).map (·.1)).map Value.ref := by rw [List.map_map]; rfl
      rw [this, List.map_fst_zip (by omega)])
    have idx : ∀ z ∈ zs, ∃ j : Nat, as[j]? = some z.1 ∧ kvs[j]? = some z.2.1 ∧ ks[j]? = some z.2.2 := by
      intro z' hz'
      obtain ⟨j, hj⟩ := List.mem_iff_getElem?.mp (pz.mem_iff.mp hz')
      obtain ⟨j1, j2⟩ := List.getElem?_zip_eq_some.mp hj
      obtain ⟨j3, j4⟩ := List.getElem?_zip_eq_some.mp j2
      exact ⟨j, j1, j3, j4⟩
    have hperm : (zs.map (·.2)).Perm (kvs.zip ks) := by
      have e := pz.map (·.2)
      have m2 : (as.zip (kvs.zip ks)).map (·.2) = kvs.zip ks := List.map_snd_zip (by omega)
      rw [m2] at e
      exact e
    have hsort : zs.Pairwise (fun x y => MP.leS x.2.2 y.2.2 = true) := by
      have o1' : out.Pairwise (fun v u => SrtX.ltS (nameOf (as.zip ks) u) (nameOf (as.zip ks) v) = false) := o1
      rw [← ez, List.pairwise_map] at o1'
      refine List.Pairwise.imp_of_mem (fun {x y} hx hy h => ?_) o1'
      obtain ⟨j, j1, _, j2⟩ := idx x hx
      obtain ⟨i, i1, _, i2⟩ := idx y hy
      rw [nameOf_at nd j1 j2, nameOf_at nd i1 i2] at h
      rw [SrtX.ltS_le, h]; rfl
    -- behind the sort
    have kF : ∀ b o, b ≠ h'.objs.size → h2.get? b = some o → (sortedHeap h2 h'.objs.size (as.map Value.ref) out.toArray).get? b = some o := fun b o hb e => (PyProof.Rows.sortedHeap_old hb (Heap.lt_size e)).trans e
    have kS : ∀ b o, s.heap.get? b = some o → (sortedHeap h2 h'.objs.size (as.map Value.ref) out.toArray).get? b = some o := fun b o e => kF b o (ne0 _ _ (hk b o e)) (kb b o e)
    obtain ⟨eF, heF⟩ := PyProof.Rows.sortedHeap_at (vs := as.map Value.ref) (out := out.toArray) hob
    have I1 : Inv X pins σ H { s with heap := sortedHeap h2 h'.objs.size (as.map Value.ref) out.toArray, toks := tk } := I.kept (t' := tk) kS
    have hn0 : H h'.objs.size = none := I.hok.fresh (Nat.le_of_lt hlt)
    have hzl : zs.length = as.length := by
      have e := hperm.length_eq
      rw [List.length_map] at e
      omega
    have hlen : (zs.map fun z => V.ref z.1).length ≤ sizeLine := by rw [List.length_map]; omega
    have rv : Vals (zs.map fun z => V.ref z.1) out := by
      rw [← ez]
      exact vals_maps (fun z : Addr × (Key × V) × PySem.Str => V.ref z.1) (fun z => Value.ref z.1) zs fun _ _ => rfl
    have I2 : Inv X pins σ (upd H h'.objs.size (.lst (zs.map fun z => V.ref z.1))) { s with heap := sortedHeap h2 h'.objs.size (as.map Value.ref) out.toArray, toks := tk } :=
      I1.take (h' := sortedHeap h2 h'.objs.size (as.map Value.ref) out.toArray) (t' := tk) (fun b ob _ e => e) (I.fpOk (Nat.le_of_lt hlt) hn0) ⟨hlen, out, eF, rv, heF⟩
    obtain ⟨H2, I3, g, qt⟩ := takeT (P := fun b vs => ∃ (j : Nat) (e : Key × V), as[j]? = some b ∧ kvs[j]? = some e ∧ vs = [kV e.1, e.2]) I as _ I2 nd fun b hb => by
      obtain ⟨j, hj⟩ := List.mem_iff_getElem?.mp hb
      obtain ⟨e, k, t, u, e1, e2, e3, e4, hg⟩ := pr j b hj
      have hbl : s.heap.objs.size ≤ b := Nat.le_of_lt (hG.above b hb)
      refine ⟨hbl, ?_, [kV e.1, e.2], ⟨j, e, hj, e1, rfl⟩, fun H3 => ⟨(by rw [sizeLine_eq]; show 2 ≤ 16777216; omega), [Value.str k t, u], .cons ?_ (.cons e4 .nil), ⟨_, kF _ _ (ne0 _ _ hg) (ka _ _ hg), rfl, 0, rfl⟩⟩⟩
      · rw [upd_ne (ne0 _ _ hg)]
        exact I.hok.fresh hbl
      · rw [e3]
        exact ⟨t, rfl⟩
    have gr : ∀ b o, H b = some o → H2 b = some o := fun b o e => g b o (by rw [upd_ne (ne_of_none e hn0)]; exact e)
    refine ⟨.ref h'.objs.size, H2, I3, rfl, q H2 h'.objs.size zs gr hperm hsort hn0 (g _ _ upd_same) fun z' hz' => ?_⟩
    obtain ⟨i, i1, i2, i3⟩ := idx z' hz'
    obtain ⟨vs', ⟨j, e, j1, j2, ev⟩, hH⟩ := qt z'.1 (List.mem_of_getElem? i1)
    have eij : i = j := (List.getElem?_inj (List.getElem?_eq_some_iff.mp i1).1 nd).mp (i1.trans j1.symm)
    subst eij
    rw [i2] at j2; cases j2
    rw [ev] at hH
    exact hH
end
/-! the values of MP -/
def tupI (kv : Key × MV) : MV := .tup [MP.ofKey kv.1, kv.2]
theorem zip_sim {K : PySem.W.Frag} {rho : Rho} {H : Hp} : ∀ {T : List ((Key × MV) × (Key × V) × PySem.Str)} {zs : List (Addr × (Key × V) × PySem.Str)}, T.map (·.2) = zs.map (·.2) → (∀ t ∈ T, t.1.1 = t.2.1.1 ∧ SimV K none rho H t.1.2 t.2.1.2) → (∀ z ∈ zs, H z.1 = some (.tup [kV z.2.1.1, z.2.1.2])) →
    SimL K none rho H (T.map fun t => tupI t.1) (zs.map fun z => V.ref z.1)
  | [], [], _, _, _ => SimL.nil
  | [], z :: zs, e, _, _ => by simp at e
  | t :: T, [], e, _, _ => by simp at e
  | t :: T, z :: zs, e, h1, h2 => by
    rw [List.map_cons, List.map_cons] at e
    injection e with e1 e2
    refine SimL.cons ?_ (zip_sim e2 (fun t ht => h1 t (List.mem_cons_of_mem _ ht)) fun z hz => h2 z (List.mem_cons_of_mem _ hz))
    obtain ⟨k1, k2⟩ := h1 t List.mem_cons_self
    have hz := h2 z List.mem_cons_self
    rw [← e1] at hz
    unfold tupI SimV
    rw [k1]
    exact ⟨z.1, _, rfl, SqT.of hz, no_pairs_key, SimL.cons (SimV.key _) (SimL.cons k2 SimL.nil)⟩
theorem items_sorted {K : PySem.W.Frag} {rho : Rho} {H H' : Hp} (st : Stay H H') {kvs : List (Key × MV)} {vs : List (Key × V)} {ks : List PySem.Str} (l : SimP K none rho H kvs vs) (hk : vs.map (·.1) = ks.map Sum.inr) (nd : ks.Nodup) {zs : List (Addr × (Key × V) × PySem.Str)} (p : (zs.map (·.2)).Perm (vs.zip ks)) (pw : zs.Pairwise (fun x y => MP.leS x.2.2 y.2.2 = true))
    (h2 : ∀ z ∈ zs, H' z.1 = some (.tup [kV z.2.1.1, z.2.1.2])) : SimL K none rho H' (MP.sortT (kvs.map fun kv => .tup [MP.ofKey kv.1, kv.2])) (zs.map fun z => V.ref z.1) := by
  have hlen : kvs.length = vs.length := l.length
  have hlk : vs.length = ks.length := by
    have e := congrArg List.length hk
    rwa [List.length_map, List.length_map] at e
  have zl : (vs.zip ks).length = kvs.length := by rw [List.length_zip]; omega
  obtain ⟨T, pT, eT⟩ := perm_lift (fun t : (Key × MV) × (Key × V) × PySem.Str => t.2) p (kvs.zip (vs.zip ks)) (List.map_snd_zip (by omega))
  have hT : ∀ t ∈ T, t.1.1 = t.2.1.1 ∧ SimV K none rho H t.1.2 t.2.1.2 ∧ t.2.1.1 = Sum.inr t.2.2 := fun t ht => by
    obtain ⟨j, hj⟩ := List.mem_iff_getElem?.mp (pT.mem_iff.mp ht)
    obtain ⟨j1, j2⟩ := List.getElem?_zip_eq_some.mp hj
    obtain ⟨j3, j4⟩ := List.getElem?_zip_eq_some.mp j2
    obtain ⟨y, hy, q⟩ := pget l j3
    rw [j1] at hy; cases hy
    refine ⟨q.1, q.2, ?_⟩
    have e := congrArg (fun l => l[j]?) hk
    simp only [List.getElem?_map, j3, j4, Option.map_some, Option.some.injEq] at e
    exact e
  have p1 : (T.map fun t => tupI t.1).Perm (kvs.map tupI) := by
    have e : (kvs.zip (vs.zip ks)).map (fun t => tupI t.1) = kvs.map tupI := by
      have : (kvs.zip (vs.zip ks)).map (fun t => tupI t.1) = ((kvs.zip (vs.zip ks)).map (·.1)).map tupI := by rw [List.map_map]; rfl
      rw [this, List.map_fst_zip (by omega)]
    exact (pT.map _).trans (List.Perm.of_eq e)
  have hd : ∀ t ∈ T, MP.headOf (tupI t.1) = t.2.2 := fun t ht => by
    obtain ⟨a, _, b⟩ := hT t ht
    unfold tupI
    rw [a, b]; rfl
  have pw1 : (T.map fun t => tupI t.1).Pairwise (fun a b => MP.leT a b = true) := by
    rw [List.pairwise_map]
    have e : zs.map (fun z => z.2.2) = T.map fun t => t.2.2 := by
      have := congrArg (List.map (fun x : (Key × V) × PySem.Str => x.2)) eT
      rw [List.map_map, List.map_map] at this
      exact this.symm
    have pz : (zs.map fun z => z.2.2).Pairwise (fun x y => MP.leS x y = true) := by rw [List.pairwise_map]; exact pw
    rw [e, List.pairwise_map] at pz
    refine List.Pairwise.imp_of_mem (fun {x y} hx hy h => ?_) pz
    unfold MP.leT
    rw [hd x hx, hd y hy]
    exact h
  have nd1 : ((kvs.map tupI).map MP.headOf).Nodup := by
    have pm : ((T.map fun t => tupI t.1).map MP.headOf).Perm ((kvs.map tupI).map MP.headOf) := p1.map _
    refine (pm.nodup_iff).mp ?_
    have e1 : (T.map fun t => tupI t.1).map MP.headOf = T.map fun t => t.2.2 := by
      rw [List.map_map]
      exact List.map_congr_left fun t ht => hd t ht
    rw [e1]
    have e2 : (T.map fun t => t.2.2).Perm ks := by
      have : (T.map (fun t => t.2)).Perm (vs.zip ks) := by rw [eT]; exact p
      have := this.map (·.2)
      rw [List.map_map, List.map_snd_zip (by omega)] at this
      exact this
    exact (e2.nodup_iff).mpr nd
  have e1 : (T.map fun t => tupI t.1) = MP.sortT (kvs.map tupI) := MP.sortT_is nd1 p1 pw1
  show SimL K none rho H' (MP.sortT (kvs.map tupI)) _
  rw [← e1]
  exact zip_sim eT (fun t ht => ⟨(hT t ht).1, (hT t ht).2.1.mono st (Sub.refl _)⟩) h2
section
variable {X : Cx} {W : WX} {a : Expr} {ma : ME} {pos p : Pos} {N : List (Str × Nat × Bool)} {G : List Str}
theorem le_sortItems {cpos apos : Pos} (nm : Nm X N G) (j : Nat) (hc : X.calm = true) (hm : X.mg "sorted" = none) (ha : LE X W none a ma) (hx : G[j]? = some "sorted" := by rfl) (hbase : attributeBase a "items" X.env (eval a X.env) = eval a X.env := by rfl) (hline : (apos.endLine == cpos.line) = true := by rfl)
    (hs : starEach [.Call (.Attribute a "items" apos) [] [] cpos] X.env = (false, eval (.Call (.Attribute a "items" apos) [] [] cpos) X.env) :: starEach [] X.env := by rfl) (hpl : (backTo pos (starEach [] X.env)).any (·.1) = false := by rfl) :
    LE X W none (.Call (.Name "sorted" p) [.Call (.Attribute a "items" apos) [] [] cpos] [] pos) (MP.e1 MP.oSortItems ma) := by
  obtain ⟨t1, p1, g1⟩ := ha
  refine ⟨_, pe_callB (cr_sortItK hc) (nm.gl j _ hx).1 hm boot_sorted (pa_cons (pe_bm0 PySem.F.plainAttrs_dict PySem.F.slot_dict_items PySem.F.type_dict_items mt_itemsK p1 hbase hline) pa_nil hs) (nm.gl j _ hx).2.2 (nm.gl j _ hx).2.1 hs hpl, fun rho fr mem σ H Q S M h => ?_⟩
  unfold MP.e1 at h
  rw [Res.wp_bind] at h
  refine g1 rho fr mem σ H _ S M (Res.wp_mono h (fun x m1 h1 r1 v H1 s1 t1 q1 M1 => ?_) fun c m1 h1 => h1)
  cases x with
  | ref n =>
    cases hm : m1[n]? with
    | none => simp [MP.oSortItems, hm] at h1
    | some o => cases o with
      | dct lk kvs =>
        cases lk with
        | true => simp [MP.oSortItems, hm] at h1
        | false =>
          cases e3 : MP.keysS kvs with
          | none => simp [MP.oSortItems, hm, e3] at h1
          | some ks =>
            simp only [MP.oSortItems, hm, e3] at h1
            split at h1
            · rename_i hnd
              obtain ⟨d, vs, rfl, hr, s2, l1⟩ := dct0_at M1 q1 hm
              refine ⟨.inr (.inr (.inl ⟨rfl, .inl ⟨_, s2⟩⟩)), d, vs, rfl, rfl, s2, fun pv hpv => ?_⟩
              have hda : (upd H1 pv (itemsO pv d)) d = some (.dK vs) := by rw [upd_ne (ne_of_none s2 hpv)]; exact s2
              refine ⟨pv, d, vs, ks, rfl, upd_same, hda, keysS_at l1 e3, hnd.1, fun H' l zs keep pe pw hl hl' hz => ?_⟩
              have hlp : l ≠ pv := fun z => by rw [z, upd_same] at hl; cases hl
              have hl1 : H1 l = none := by rw [upd_ne hlp] at hl; exact hl
              have keep1 : ∀ b o, H1 b = some o → H' b = some o := fun b o e => keep b o (by rw [upd_ne (ne_of_none e hpv)]; exact e)
              have st : Stay H1 H' := ⟨fun a vs e => keep1 a _ e, fun a o u e => keep1 a _ e⟩
              refine h1 (r1 ++ [l]) _ H' (s1.trans (Sub.snoc _ _)) (t1.trans st) ?_ ?_
              · unfold SimV
                exact ⟨l, by rw [← M1.len]; simp, rfl⟩
              · exact M1.pushK keep1 hl1 rfl ⟨_, hl', (items_sorted st l1 (keysS_at l1 e3) hnd.1 pe pw hz).mono (Stay.refl _) (Sub.snoc _ _)⟩
            · exact h1.elim
      | _ => simp [MP.oSortItems, hm] at h1
  | _ => exact h1.elim
end
end ML

/-! MLinkZ: list(d.values()), count and index of truths. -/
namespace ML
open PySem PySem.Spec PyProof.Rows L2 L2.DX
open MP (MV MO Mem Fr ME MA MT MS MG MI MFn Res SR)
section
variable {X : Cx}
def valsO (p d : Addr) : HO := .ext fun h => h.IsValuesView p d
theorem valsO_ok {P : Program} {w : World} {H : Hp} {h : Heap} {p d : Addr} (e : h.get? p = some { cls := .type "dict_values", data := .fields #[.ref d] }) : ObjOk P w H h p (valsO p d) :=
  ⟨⟨_, e, rfl, rfl⟩, ⟨_, e⟩, fun h1 h2 x k => let ⟨o, ho, r⟩ := x; ⟨o, k o ho, r⟩⟩
def rValsK : V → List V → Hp → VK → Prop := fun x xs H Q => ∃ (a : Addr) (kvs : List (Key × V)), x = .ref a ∧ xs = [] ∧ H a = some (.dK kvs) ∧ ∀ p, H p = none → Q (.ref p) (upd H p (valsO p a))
theorem mt_valsK : MtR X "dict.values" rValsK := by
  intro pins s σ H x xs v us Q I rx rxs h
  obtain ⟨a, kvs, rfl, rfl, ha, q⟩ := h
  cases rx
  cases rxs
  obtain ⟨z, hd, vs, rel, hdo⟩ := dk_of I.hok ha
  have hf : H s.heap.objs.size = none := I.hok.fresh (Nat.le_refl _)
  refine call_meetsIn PySem.F.slot_dict_values hdo.typeIs PySem.F.entry_dict_values (PySem.F.args_dict_values_1 _) (meets_dict_values (mixKind X.prog X.w) a hd) ⟨⟨vs, hdo⟩, ?_⟩
  exact ⟨.ref s.heap.objs.size, upd H s.heap.objs.size (valsO s.heap.objs.size a), I.laid (t' := s.toks) (fun b u e => Heap.get?_push_of_some _ e) (Nat.le_refl _) (valsO_ok (Heap.get?_push_size _ rfl)), rfl, q _ hf⟩
def rListVals : List V → Hp → VK → Prop := fun vs H Q => ∃ (p a : Addr) (kvs : List (Key × V)), vs = [.ref p] ∧ H p = some (valsO p a) ∧ H a = some (.dK kvs) ∧ ∀ l, H l = none → Q (.ref l) (upd H l (.lst (kvs.map fun kv => kv.2)))
theorem vals_at {K : Type} [DecidableEq K] : ∀ {vs : List (K × Value)} {us : List Value}, us.length = vs.length → (∀ (j : Nat) (v : Value), us[j]? = some v → ∃ k, vs[j]? = some (k, v)) → us = vs.map (·.2)
  | [], [], _, _ => rfl
  | q :: vs, u :: us, hl, h => by
    obtain ⟨k, e⟩ := h 0 u rfl
    have e' : q = (k, u) := by simpa using e
    rw [List.map_cons, e', ← vals_at (by simpa using hl) fun j v e => by
      obtain ⟨k, e2⟩ := h (j + 1) v (by simpa using e)
      exact ⟨k, by simpa using e2⟩]
  | [], _ :: _, hl, _ => by simp at hl
  | _ :: _, [], hl, _ => by simp at hl
theorem kv_vals {κ : Type} : ∀ {kvs : List (κ × V)} {vs : List (κ × Value)}, KV kvs vs → Vals (kvs.map fun kv => kv.2) (vs.map (·.2))
  | _, _, .nil => .nil
  | _, _, .cons h t => .cons h.2 (kv_vals t)
theorem cr_listVals (hc : X.calm = true) : CallR X (.type "list") rListVals := by
  intro pins s σ H xs us Q I r q
  obtain ⟨p, a, kvs, rfl, hp, ha, q⟩ := q
  obtain rfl := Vals.ref1 r
  have view : s.heap.IsValuesView p a := (show ObjOk X.prog X.w H s.heap p (valsO p a) from I.hok p _ hp).1
  obtain ⟨z, lo, vs, rel, dd⟩ := dk_of I.hok ha
  obtain ⟨ep, hat⟩ := dd.dictAt
  have lk : kvs.length = vs.length := Paired.length rel
  refine PySem.W.kdl_call (PySem.W.kdl_values (knd := mixKind X.prog X.w) (kvs := vs) (ep := ep)) (I.ok.hd hc) ⟨view, hat⟩ (by rw [← lk]; exact z) fun h' tk acc c' hk hD hacc => ?_
  have ev : acc.toList = vs.map (·.2) := vals_at (by rw [Array.length_toList]; exact hacc.1) fun j v e => hacc.2 j v (by rw [← Array.getElem?_toList]; exact e)
  refine ⟨.ref s.heap.objs.size, upd H s.heap.objs.size (.lst (kvs.map fun kv => kv.2)), I.laid (t' := tk) hk (Nat.le_refl _)
    (show ObjOk X.prog X.w _ _ _ (.lst (kvs.map fun kv => kv.2)) from ⟨by rw [List.length_map]; exact z, acc.toList, c', by rw [ev]; exact kv_vals rel, by rw [Array.toArray_toList]; exact hD⟩), rfl, q _ (I.hok.fresh (Nat.le_refl _))⟩
end
theorem simP_vals {K : PySem.W.Frag} {ex : ExH} {rho : Rho} {H : Hp} {α : Type} : ∀ {kvs : List (α × MV)} {vs : List (α × V)}, SimP K ex rho H kvs vs → SimL K ex rho H (kvs.map fun kv => kv.2) (vs.map fun kv => kv.2)
  | _, _, .nil => SimL.nil
  | _, _, .cons r t => SimL.cons r.2 (simP_vals t)
section
variable {X : Cx} {W : WX} {a : Expr} {ma : ME} {pos p : Pos} {N : List (Str × Nat × Bool)} {G : List Str}
theorem le_listVals {cpos apos : Pos} (nm : Nm X N G) (j : Nat) (hc : X.calm = true) (hm : X.mg "list" = none) (ha : LE X W none a ma) (hx : G[j]? = some "list" := by rfl) (hbase : attributeBase a "values" X.env (eval a X.env) = eval a X.env := by rfl) (hline : (apos.endLine == cpos.line) = true := by rfl)
    (hs : starEach [.Call (.Attribute a "values" apos) [] [] cpos] X.env = (false, eval (.Call (.Attribute a "values" apos) [] [] cpos) X.env) :: starEach [] X.env := by rfl) (hpl : (backTo pos (starEach [] X.env)).any (·.1) = false := by rfl) :
    LE X W none (.Call (.Name "list" p) [.Call (.Attribute a "values" apos) [] [] cpos] [] pos) (MP.e1 MP.oListVals ma) := by
  obtain ⟨t1, p1, g1⟩ := ha
  refine ⟨_, pe_callTy (cr_listVals hc) (nm.gl j _ hx).1 hm boot_list (pa_cons (pe_bm0 PySem.F.plainAttrs_dict PySem.F.slot_dict_values PySem.F.type_dict_values mt_valsK p1 hbase hline) pa_nil hs) (nm.gl j _ hx).2.2 (nm.gl j _ hx).2.1 hs hpl, fun rho fr mem σ H Q S M h => ?_⟩
  unfold MP.e1 at h
  rw [Res.wp_bind] at h
  refine g1 rho fr mem σ H _ S M (Res.wp_mono h (fun x m1 h1 r1 v H1 s1 t1 q1 M1 => ?_) fun c m1 h1 => h1)
  cases x with
  | ref n =>
    cases hm : m1[n]? with
    | none => simp [MP.oListVals, hm] at h1
    | some o => cases o with
      | dct lk kvs =>
        cases lk with
        | true => simp [MP.oListVals, hm] at h1
        | false =>
          simp only [MP.oListVals, hm] at h1
          obtain ⟨d, vs, rfl, hr, s2, l1⟩ := dct0_at M1 q1 hm
          refine ⟨.inr (.inr (.inl ⟨rfl, .inl ⟨_, s2⟩⟩)), d, vs, rfl, rfl, s2, fun pv hpv => ?_⟩
          have hda : (upd H1 pv (valsO pv d)) d = some (.dK vs) := by rw [upd_ne (ne_of_none s2 hpv)]; exact s2
          refine ⟨pv, d, vs, rfl, upd_same, hda, fun l hl => ?_⟩
          have hlp : l ≠ pv := fun z => by rw [z, upd_same] at hl; cases hl
          have hl1 : H1 l = none := by rw [upd_ne hlp] at hl; exact hl
          have keep1 : ∀ b o, H1 b = some o → (upd (upd H1 pv (valsO pv d)) l (.lst (vs.map fun kv => kv.2))) b = some o := fun b o e => by rw [upd_ne (ne_of_none e hl1), upd_ne (ne_of_none e hpv)]; exact e
          have st : Stay H1 (upd (upd H1 pv (valsO pv d)) l (.lst (vs.map fun kv => kv.2))) := ⟨fun a vs e => keep1 a _ e, fun a o u e => keep1 a _ e⟩
          refine h1 (r1 ++ [l]) _ _ (s1.trans (Sub.snoc _ _)) (t1.trans st) ?_ ?_
          · unfold SimV
            exact ⟨l, by rw [← M1.len]; simp, rfl⟩
          · exact M1.pushK keep1 hl1 rfl ⟨_, upd_same, (simP_vals l1).mono st (Sub.snoc _ _)⟩
      | _ => simp [MP.oListVals, hm] at h1
  | _ => exact h1.elim
end
end ML

/-! MLinkW: a def that is called in an except suite and handed what is caught. -/
namespace ML
open PySem PySem.Spec PyProof.Rows L2 L2H
open MP (MV MO Mem Fr ME MA MT MS MG MI MFn Res SR)
/-! ### expressions that don't look at the exception -/
theorem simS_strip {K : PySem.W.Frag} {ex : ExH} {rho : Rho} {H : Hp} {fr : Fr} {σ : L2.St} (S : SimS K ex rho H fr σ) : SimS K none rho H (MP.strip fr) σ := by
  obtain ⟨h1, h2⟩ := S
  refine ⟨by unfold MP.strip; rw [List.length_map]; exact h1, fun i x e => ?_⟩
  unfold MP.strip at e
  rw [List.getElem?_map] at e
  cases h : fr[i]? with
  | none => rw [h] at e; cases e
  | some o =>
    rw [h] at e
    cases o with
    | none => cases e
    | some v =>
      have e' : (if MP.noX v = true then some v else none) = some x := by
        have h9 : MP.strip1 (some v) = some x := by simpa using e
        exact h9
      split at e'
      · rename_i hv
        cases e'
        obtain ⟨w, w1, w2⟩ := h2 i _ h
        exact ⟨w, w1, w2.drop hv⟩
      · cases e'
section
variable {X : Cx} {W : WX} {ex : ExH} {a b c e : Expr} {ma mb me : ME} {mt : MT} {pos p : Pos} {N : List (Str × Nat × Bool)} {G : List Str}
theorem le_hide (ha : LE X W none a ma) : LE X W ex a (MP.eHide ma) := by
  obtain ⟨t, p, g⟩ := ha
  refine ⟨t, p, fun rho fr mem σ H Q S M h => ?_⟩
  refine g rho (MP.strip fr) mem σ H Q (simS_strip S) M (Res.wp_mono h (fun x m1 h1 r1 v H1 s1 t1 q1 M1 => h1 r1 v H1 s1 t1 (q1.ex0 ex) M1) fun c m1 h1 => h1)
theorem lt_hide (ha : LT X W none a mt) : LT X W ex a (MP.tHide mt) := by
  obtain ⟨t, p, g⟩ := ha
  refine ⟨t, p, fun rho fr mem σ H Q S M h => ?_⟩
  exact g rho (MP.strip fr) mem σ H Q (simS_strip S) M h
theorem simL_dropX {K : PySem.W.Frag} {ex : ExH} {rho : Rho} {H : Hp} : ∀ {xs : List MV} {vs : List V}, SimL K ex rho H xs vs → MP.noXs xs = true → SimL K none rho H xs vs
  | [], vs, l, _ => by rw [l.inv_nil]; exact SimL.nil
  | x :: xs, vs, l, h => by
    obtain ⟨v, vs', rfl, q, l2⟩ := l.inv_cons
    have h' : (MP.noX x && MP.noXs xs) = true := h
    rw [Bool.and_eq_true] at h'
    exact SimL.cons (q.drop h'.1) (simL_dropX l2 h'.2)
theorem le_lstX {es : List Expr} {ms : MA} (h : LA X W ex es ms) : LE X W ex (.List es pos) (MP.eLstX ms) := by
  obtain ⟨t1, p1, g1⟩ := h
  refine ⟨_, pe_lst p1, fun rho fr mem σ H Q S M h => ?_⟩
  unfold MP.eLstX at h
  rw [Res.wp_bind] at h
  refine g1 rho fr mem σ H _ S M (Res.wp_mono h (fun xs m1 h1 rho1 vs H1 s1 t1 l1 M1 => ?_) fun c m1 h1 => h1)
  split at h1
  · rename_i hc
    have l0 := simL_dropX l1 hc.1
    refine ⟨by rw [← l1.length, ← line_eq]; exact hc.2, fun p hp => ?_⟩
    have h2 := mem_ok h1 s1 t1
    refine h2 (rho1 ++ [p]) (.ref p) _ (Sub.snoc _ _) (Stay.new hp) ?_ (M1.push hp rfl ⟨_, upd_same, l0.mono (Stay.new hp) (Sub.snoc _ _)⟩)
    unfold SimV
    exact ⟨p, by rw [← M1.len]; simp, rfl⟩
  · exact h1.elim
theorem le_extendX {apos : Pos} (ha : LE X W ex a ma) (hb : LE X W ex b mb) (m : M1 X a "extend" apos b pos := by exact ⟨rfl, rfl, rfl, rfl⟩) (he : starEach [b] X.env = (false, eval b X.env) :: starEach [] X.env := by rfl)
    (hplain : (backTo pos (starEach [] X.env)).any (·.1) = false := by rfl) : LE X W ex (.Call (.Attribute a "extend" apos) [b] [] pos) (MP.eExtend ma mb) := by
  obtain ⟨t1, p1, g1⟩ := ha
  obtain ⟨t2, p2, g2⟩ := hb
  refine ⟨_, pe_bm PySem.F.plainAttrs_list PySem.F.slot_list_extend PySem.F.type_list_extend mt_extend p1 (pa_cons p2 pa_nil he) m.base m.few m.line he hplain, fun rho fr mem σ H Q S M h => ?_⟩
  unfold MP.eExtend at h
  rw [Res.wp_bind] at h
  refine g1 rho fr mem σ H _ S M (Res.wp_mono h (fun x m1 h1 r1 v H1 s1 t1 q1 M1 => ?_) fun c m1 h1 => h1)
  cases x with
  | ref n =>
    have q1 : SimV X.K none r1 H1 (.ref n) v := q1.drop rfl
    cases hm : m1[n]? with
    | none => simp [hm] at h1
    | some o => cases o with
      | lst xs =>
        simp only [hm] at h1
        obtain ⟨d, vs, e1, hr, e2, l1⟩ := lst_at M1 q1 hm
        refine ⟨by rw [e1]; exact .inl ⟨rfl, vs, SqL.of e2⟩, ?_⟩
        rw [Res.wp_bind] at h1
        refine g2 r1 fr m1 σ H1 _ (S.mono t1 s1) M1 (Res.wp_mono h1 (fun y m2 h2 r2 w H2 s2 t2 q2 M2 => ?_) fun c m2 h2 => exP.trans h2 s1 t1)
        cases y with
        | ref k =>
          have q2 : SimV X.K none r2 H2 (.ref k) w := q2.drop rfl
          cases hm2 : m2[n]? with
          | none => simp [hm2] at h2
          | some o2 => cases o2 with
            | lst ys =>
              cases hm3 : m2[k]? with
              | none => simp [hm2, hm3] at h2
              | some o3 => cases o3 with
                | lst zs =>
                  simp only [hm2, hm3] at h2
                  split at h2
                  · rename_i hc
                    have hr2 := s2 n d hr
                    obtain ⟨us, e3, l3⟩ := M2.get hr2 hm2
                    obtain ⟨d2, ws, e5, hr5, e6, l6⟩ := lst_at M2 q2 hm3
                    have st : Stay H2 (upd H2 d (.lst (us ++ ws))) := Stay.write e3 (fun _ z => nomatch z) (fun _ _ z => nomatch z)
                    refine ⟨d, d2, us, ws, e1, by rw [e5], e3, e6, by rw [← l3.length, ← l6.length, ← line_eq]; exact hc, ?_⟩
                    exact h2 r2 _ _ (s1.trans s2) ((t1.trans t2).trans st) (SimV.non.ex0 ex) (M2.write hr2 hm2 e3 (fun _ z => nomatch z) (fun _ _ z => nomatch z) rfl rfl ⟨_, upd_same, (l3.append l6).mono st (Sub.refl _)⟩)
                  · exact h2.elim
                | _ => simp [hm2, hm3] at h2
            | _ => simp [hm2] at h2
        | _ => exact h2.elim
      | _ => simp [hm] at h1
  | _ => exact h1.elim
/-! ### isinstance of what is held -/
theorem call_isEX {C : Addr} {q : Addr × Obj} (E : ExcC X.K C) (hz : Zc (.ref C) none q.2) (hf : ∃ vs, q.2.data = .fields vs) (hp : q ∈ X.pn) : CallR X (.builtin "isinstance") (rIsE X.K C q.1) := by
  intro pins s σ H xs us Q I r h
  obtain ⟨c, cv, b, rfl, hcv, e, k⟩ := h
  cases r with
  | cons rx rr =>
    cases rr with
    | cons rt rr =>
      cases rr
      cases rx
      have ec := hcv _ rt
      subst ec
      obtain ⟨hget, _⟩ := I.pin q (List.mem_append.mpr (.inl hp))
      obtain ⟨vs, hv⟩ := hf
      have J : PySem.W.InstAt s.heap q.1 q.2 C none := by
        obtain ⟨a, ⟨oc, od, oda, osl⟩⟩ := q
        obtain ⟨h1, h2⟩ := hz
        dsimp only at h1 h2 hv
        subst h1 h2 hv
        exact ⟨hget, rfl, rfl, trivial⟩
      exact PySem.W.kia_one (PySem.W.handS_kitx_exc E.hg E.hk E.hs E.hd E.ha E.hn E.ht E.hm) I.kIn J e (fun z => nomatch z) fun tk => ⟨.bl b, H, I.kept (t' := tk) fun _ _ z => z, rfl, k⟩
theorem le_isExcX {q : Addr × Obj} {C : Str} {Ca : Addr} {x : Str} {h : Str → Option Bool} {p2 : Pos} (nm : Nm X N G) (j jx : Nat) (hm : X.mg "isinstance" = none) (I : IsEx X.K X.mg x h) (hC : X.mg C = some (.ref Ca)) (hz : Zc (.ref Ca) none q.2) (hf : ∃ vs, q.2.data = .fields vs) (hp : q ∈ X.pn)
    (he : LE X W (some (q.1, C)) e me) (hx : G[j]? = some "isinstance" := by rfl) (hxT : G[jx]? = some x := by rfl)
    (h1 : starEach [e, .Name x p2] X.env = (false, eval e X.env) :: starEach [.Name x p2] X.env := by rfl) (h2 : starEach [.Name x p2] X.env = (false, eval (.Name x p2) X.env) :: starEach [] X.env := by rfl) (hpl : (backTo pos (starEach [.Name x p2] X.env)).any (·.1) = false := by rfl) :
    LE X W (some (q.1, C)) (.Call (.Name "isinstance" p) [e, .Name x p2] [] pos) (MP.e1 (MP.oIsExc h) me) := by
  obtain ⟨t1, p1, g1⟩ := he
  obtain ⟨c, cv, hc, rc, uc, hk⟩ := I.ex
  have pT : PE X (.Name x p2) (tC c) := by
    rcases hc with hc | ⟨hc, hb, hn⟩
    · exact pe_glob (nm.gl jx x hxT).1 hc rc (nm.gl jx x hxT).2.1
    · exact pe_bltn (nm.gl jx x hxT).1 hc hb rc hn (nm.gl jx x hxT).2.1
  by_cases hh : ∃ b, h C = some b
  · obtain ⟨b, hb⟩ := hh
    obtain ⟨k1, k2⟩ := hk C Ca b hb hC
    refine ⟨_, pe_callB (call_isEX k1 hz hf hp) (nm.gl j _ hx).1 hm boot_isinstance (pa_cons p1 (pa_cons pT pa_nil h2) h1) (nm.gl j _ hx).2.2 (nm.gl j _ hx).2.1 h1 hpl, fun rho fr mem σ H Q S M q => ?_⟩
    unfold MP.e1 at q
    rw [Res.wp_bind] at q
    refine g1 rho fr mem σ H _ S M (Res.wp_mono q (fun x m1 h1 r1 v H1 s1 t1 q1 M1 => ?_) fun c m1 h1 => h1)
    cases x <;> first | exact h1.elim | skip
    rename_i c'
    unfold SimV at q1
    obtain ⟨a1, e1, rfl⟩ := q1
    cases e1
    simp only [MP.oIsExc, hb] at h1
    exact ⟨c, cv, b, rfl, uc, k2, h1 r1 _ H1 s1 t1 (SimV.bl _) M1⟩
  · refine ⟨_, pe_callB (r := fun _ _ _ => False) (fun _ _ _ _ _ _ _ _ _ h => h.elim) (nm.gl j _ hx).1 hm boot_isinstance (pa_cons p1 (pa_cons pT pa_nil h2) h1) (nm.gl j _ hx).2.2 (nm.gl j _ hx).2.1 h1 hpl, fun rho fr mem σ H Q S M q => ?_⟩
    · unfold MP.e1 at q
      rw [Res.wp_bind] at q
      refine g1 rho fr mem σ H _ S M (Res.wp_mono q (fun x m1 h1 r1 v H1 s1 t1 q1 M1 => ?_) fun c m1 h1 => h1)
      cases x <;> first | exact h1.elim | skip
      rename_i c'
      unfold SimV at q1
      obtain ⟨a1, e1, rfl⟩ := q1
      cases e1
      cases hc : h C with
      | none => simp only [MP.oIsExc, hc] at h1; exact h1.elim
      | some b => exact hh ⟨b, hc⟩
/-- classes' names in a tuple -/
def LX (X : Cx) (es : List Expr) (hs : List (Str → Option Bool)) : Prop := ∃ (cs : List V) (cvs : List Value), PA X es (fun _ H Q => Q cs H) ∧ (∀ us, Vals cs us → us = cvs) ∧ cs.length ≤ sizeLine - (sizeLine - hs.length) ∧
  ∀ (C : Str) (Ca : Addr) (b : Bool), MP.anyX C hs = some b → X.mg C = some (.ref Ca) → (hs ≠ [] → ExcC X.K Ca) ∧ PySem.W.kitAny X.K (.ref Ca) cvs = some b
theorem lx_nil : LX X [] [] := ⟨[], [], pa_nil, fun us r => by cases r; rfl, by simp, fun C Ca b h _ => ⟨fun z => absurd rfl z, h⟩⟩
theorem lx_cons {x : Str} {h : Str → Option Bool} {es : List Expr} {hs : List (Str → Option Bool)} (nm : Nm X N G) (jx : Nat) (I : IsEx X.K X.mg x h) (r : LX X es hs) (hn : hs.length < 1000) (hxT : G[jx]? = some x := by rfl) (h2 : starEach (.Name x p :: es) X.env = (false, eval (.Name x p) X.env) :: starEach es X.env := by rfl) : LX X (.Name x p :: es) (h :: hs) := by
  obtain ⟨cs, cvs, pa, uq, hl, k⟩ := r
  obtain ⟨c, cv, hc, rc, uc, hk⟩ := I.ex
  have pT : PE X (.Name x p) (tC c) := by
    rcases hc with hc | ⟨hc, hb, hn⟩
    · exact pe_glob (nm.gl jx x hxT).1 hc rc (nm.gl jx x hxT).2.1
    · exact pe_bltn (nm.gl jx x hxT).1 hc hb rc hn (nm.gl jx x hxT).2.1
  refine ⟨c :: cs, cv :: cvs, pa_cons pT pa h2, fun us r => ?_, ?_, fun C Ca b hb hC => ?_⟩
  · cases r with
    | cons r1 r2 => rw [uc _ r1, uq _ r2]
  · rw [sizeLine_eq] at hl ⊢
    simp only [List.length_cons]
    omega
  · have hb' : (match h C with
      | some true => some true
      | some false => MP.anyX C hs
      | none => none) = some b := hb
    cases e : h C with
    | none => rw [e] at hb'; cases hb'
    | some b0 =>
      obtain ⟨k1, k2⟩ := hk C Ca b0 e hC
      refine ⟨fun _ => k1, ?_⟩
      show (match PySem.W.kitOne X.K (.ref Ca) cv with
        | some true => some true
        | some false => PySem.W.kitAny X.K (.ref Ca) cvs
        | none => none) = some b
      rw [k2]
      rw [e] at hb'
      cases b0 with
      | true => exact hb'
      | false => exact (k C Ca b hb' hC).2
def rIsET (K : PySem.W.Frag) (D a : Addr) (cs : List V) (cvs : List Value) : List V → Hp → VK → Prop := fun xs H Q => ∃ (tp : Addr) (b : Bool), xs = [.ref a, .ref tp] ∧ H tp = some (.tup cs) ∧ PySem.W.kitAny K (.ref D) cvs = some b ∧ Q (.bl b) H
theorem call_isETX {C : Addr} {q : Addr × Obj} {cs : List V} {cvs : List Value} (E : ExcC X.K C) (uq : ∀ us, Vals cs us → us = cvs) (hz : Zc (.ref C) none q.2) (hf : ∃ vs, q.2.data = .fields vs) (hp : q ∈ X.pn) : CallR X (.builtin "isinstance") (rIsET X.K C q.1 cs cvs) := by
  intro pins s σ H xs us Q I r h
  obtain ⟨tp, b, rfl, ht, e, k⟩ := h
  cases r with
  | cons rx rr =>
    cases rr with
    | cons rt rr =>
      cases rr
      cases rx
      cases rt
      obtain ⟨its, rv, ⟨o, ho, hc, n, hd⟩, _⟩ := I.tuple (SqT.of ht)
      have ei := uq _ rv
      subst ei
      obtain ⟨oc, dd, odt, sl⟩ := o
      dsimp only at hc hd
      subst hc hd
      obtain ⟨hget, _⟩ := I.pin q (List.mem_append.mpr (.inl hp))
      obtain ⟨vs, hv⟩ := hf
      have J : PySem.W.InstAt s.heap q.1 q.2 C none := by
        obtain ⟨a, ⟨oc, od, oda, osl⟩⟩ := q
        obtain ⟨h1, h2⟩ := hz
        dsimp only at h1 h2 hv
        subst h1 h2 hv
        exact ⟨hget, rfl, rfl, trivial⟩
      exact PySem.W.kia_tup (PySem.W.handS_kitx_exc E.hg E.hk E.hs E.hd E.ha E.hn E.ht E.hm) I.kIn J ho e (fun z => nomatch z) fun tk => ⟨.bl b, H, I.kept (t' := tk) fun _ _ z => z, rfl, k⟩
theorem le_isExcsX {q : Addr × Obj} {C : Str} {Ca : Addr} {es : List Expr} {hs : List (Str → Option Bool)} {k : Nat} {tpos : Pos} (nm : Nm X N G) (j : Nat) (hm : X.mg "isinstance" = none) (L : LX X es hs) (hne : hs ≠ []) (hn : hs.length < 1000) (hC : X.mg C = some (.ref Ca)) (hz : Zc (.ref Ca) none q.2) (hf : ∃ vs, q.2.data = .fields vs) (hp : q ∈ X.pn)
    (he : LE X W (some (q.1, C)) e me) (hx : G[j]? = some "isinstance" := by rfl)
    (h1 : starEach [e, .Tuple es k tpos] X.env = (false, eval e X.env) :: starEach [.Tuple es k tpos] X.env := by rfl) (h2 : starEach [.Tuple es k tpos] X.env = (false, eval (.Tuple es k tpos) X.env) :: starEach [] X.env := by rfl) (hpl : (backTo pos (starEach [.Tuple es k tpos] X.env)).any (·.1) = false := by rfl) :
    LE X W (some (q.1, C)) (.Call (.Name "isinstance" p) [e, .Tuple es k tpos] [] pos) (MP.e1 (MP.oIsExcs hs) me) := by
  obtain ⟨t1, p1, g1⟩ := he
  obtain ⟨cs, cvs, pa, uq, hl, kk⟩ := L
  by_cases hh : ∃ b, MP.anyX C hs = some b
  · obtain ⟨b, hb⟩ := hh
    obtain ⟨k1, k2⟩ := kk C Ca b hb hC
    refine ⟨_, pe_callB (call_isETX (cs := cs) (k1 hne) uq hz hf hp) (nm.gl j _ hx).1 hm boot_isinstance (pa_cons p1 (pa_cons (pe_tup pa) pa_nil h2) h1) (nm.gl j _ hx).2.2 (nm.gl j _ hx).2.1 h1 hpl, fun rho fr mem σ H Q S M q => ?_⟩
    unfold MP.e1 at q
    rw [Res.wp_bind] at q
    refine g1 rho fr mem σ H _ S M (Res.wp_mono q (fun x m1 h1 r1 v H1 s1 t1 q1 M1 => ?_) fun c m1 h1 => h1)
    cases x <;> first | exact h1.elim | skip
    rename_i c'
    unfold SimV at q1
    obtain ⟨a1, e1, rfl⟩ := q1
    cases e1
    simp only [MP.oIsExcs, hb] at h1
    refine ⟨by rw [sizeLine_eq] at hl ⊢; omega, fun tp htp => ⟨tp, b, rfl, upd_same, k2, ?_⟩⟩
    exact h1 r1 _ _ s1 (t1.trans (Stay.new htp)) (SimV.bl _) (M1.fresh htp)
  · refine ⟨_, pe_callB (r := fun _ _ _ => False) (fun _ _ _ _ _ _ _ _ _ h => h.elim) (nm.gl j _ hx).1 hm boot_isinstance (pa_cons p1 (pa_cons (pe_tup pa) pa_nil h2) h1) (nm.gl j _ hx).2.2 (nm.gl j _ hx).2.1 h1 hpl, fun rho fr mem σ H Q S M q => ?_⟩
    unfold MP.e1 at q
    rw [Res.wp_bind] at q
    refine g1 rho fr mem σ H _ S M (Res.wp_mono q (fun x m1 h1 r1 v H1 s1 t1 q1 M1 => ?_) fun c m1 h1 => h1)
    cases x <;> first | exact h1.elim | skip
    rename_i c'
    unfold SimV at q1
    obtain ⟨a1, e1, rfl⟩ := q1
    cases e1
    cases hc : MP.anyX C hs with
    | none => simp only [MP.oIsExcs, hc] at h1; exact h1.elim
    | some b => exact absurd ⟨b, hc⟩ hh
/-! ### count, index -/
theorem bls_at {K : PySem.W.Frag} {rho : Rho} {H : Hp} : ∀ {xs : List MV} {vs : List V} {bs : List Bool}, SimL K none rho H xs vs → MP.bls xs = some bs → vs = bs.map V.bl
  | [], vs, bs, l, h => by cases h; rw [l.inv_nil]; rfl
  | x :: xs, vs, bs, l, h => by
    obtain ⟨v, vs', rfl, q, l2⟩ := l.inv_cons
    cases x with
    | bl b =>
      have h' : (MP.bls xs).map (b :: ·) = some bs := h
      cases e : MP.bls xs with
      | none => rw [e] at h'; cases h'
      | some bs' =>
        rw [e] at h'; cases h'
        rw [bls_at l2 e, bl_at q]; rfl
    | _ => cases h
theorem vals_bls : ∀ {bs : List Bool} {us : List Value}, Vals (bs.map V.bl) us → us = bs.map Value.bool
  | [], us, r => by cases r; rfl
  | b :: bs, us, r => by
    cases r with
    | cons r1 r2 =>
      rename_i u us'
      obtain rfl : u = Value.bool b := r1
      rw [vals_bls r2]; rfl
theorem mt_countB : MtR X "list.count" (fun x xs H Q => ∃ (p : Addr) (bs : List Bool) (k : Bool), x = .ref p ∧ xs = [.bl k] ∧ SqL X.K H p (bs.map V.bl) ∧ Q (.int ((bs.count k : Nat) : Int)) H) := by
  intro pins s σ H x xs v us Q I rx rxs h
  obtain ⟨p, bs, k, rfl, rfl, hs, q⟩ := h
  cases rx
  obtain ⟨u, rfl, ru⟩ := rxs.one
  obtain rfl : u = Value.bool k := ru
  obtain ⟨its, rv, ⟨⟨cls, dd, data, sl⟩, n, ho, hc, hdn, hd⟩, hlen⟩ := I.list hs
  simp only at hc hd
  subst hc hd
  have hi := vals_bls rv
  subst hi
  refine call_meets PySem.F.slot_list_count ⟨_, ho, rfl⟩ PySem.F.entry_list_count (PySem.F.args_list_count_2 _ _)
    (PySem.SeqAt.list_countAt p (bs.map Value.bool).toArray n dd sl (.bool k) (PyProof.Rows.isBoolOf k)) ⟨ho, fun y hy => ?_, ?_⟩
  · obtain ⟨b, _, rfl⟩ := List.mem_map.mp (show y ∈ bs.map Value.bool by simpa using hy)
    exact PySem.SeqAt.EqAt.bool_bool b k
  · have ec : (bs.map Value.bool).toArray.toList.countP (PyProof.Rows.isBoolOf k) = bs.count k := by
      rw [List.toList_toArray, List.countP_map, List.count_eq_countP]
      rfl
    rw [ec]
    exact ⟨.int _, H, I.tok _, ⟨_, rfl⟩, q⟩
theorem le_count {apos : Pos} (ha : LE X W none a ma) (hb : LE X W none b mb) (m : M1 X a "count" apos b pos := by exact ⟨rfl, rfl, rfl, rfl⟩) (he : starEach [b] X.env = (false, eval b X.env) :: starEach [] X.env := by rfl)
    (hplain : (backTo pos (starEach [] X.env)).any (·.1) = false := by rfl) : LE X W none (.Call (.Attribute a "count" apos) [b] [] pos) (MP.eCount ma mb) := by
  obtain ⟨t1, p1, g1⟩ := ha
  obtain ⟨t2, p2, g2⟩ := hb
  refine ⟨_, pe_bm PySem.F.plainAttrs_list PySem.F.slot_list_count PySem.F.type_list_count mt_countB p1 (pa_cons p2 pa_nil he) m.base m.few m.line he hplain, fun rho fr mem σ H Q S M h => ?_⟩
  unfold MP.eCount at h
  rw [Res.wp_bind] at h
  refine g1 rho fr mem σ H _ S M (Res.wp_mono h (fun x m1 h1 r1 v H1 s1 t1 q1 M1 => ?_) fun c m1 h1 => h1)
  cases x with
  | ref n =>
    cases hm : m1[n]? with
    | none => simp [hm] at h1
    | some o => cases o with
      | lst xs =>
        simp only [hm] at h1
        obtain ⟨d, vs, e1, hr, e2, l1⟩ := lst_at M1 q1 hm
        refine ⟨by rw [e1]; exact .inl ⟨rfl, vs, SqL.of e2⟩, ?_⟩
        rw [Res.wp_bind] at h1
        refine g2 r1 fr m1 σ H1 _ (S.mono t1 s1) M1 (Res.wp_mono h1 (fun y m2 h2 r2 w H2 s2 t2 q2 M2 => ?_) fun c m2 h2 => exP.trans h2 s1 t1)
        cases y with
        | bl k =>
          cases hm2 : m2[n]? with
          | none => simp [hm2] at h2
          | some o2 => cases o2 with
            | lst ys =>
              cases hb : MP.bls ys with
              | none => simp [hm2, hb] at h2
              | some bs =>
                simp only [hm2, hb] at h2
                have hr2 := s2 n d hr
                obtain ⟨us, e3, l3⟩ := M2.get hr2 hm2
                rw [bls_at l3 hb] at e3
                exact ⟨d, bs, k, e1, by rw [bl_at q2], SqL.of e3, h2 r2 _ _ (s1.trans s2) (t1.trans t2) (SimV.int _) M2⟩
            | _ => simp [hm2] at h2
        | _ => exact h2.elim
      | _ => simp [hm] at h1
  | _ => exact h1.elim
theorem le_index {apos : Pos} (ha : LE X W none a ma) (hb : LE X W none b mb) (m : M1 X a "index" apos b pos := by exact ⟨rfl, rfl, rfl, rfl⟩) (he : starEach [b] X.env = (false, eval b X.env) :: starEach [] X.env := by rfl)
    (hplain : (backTo pos (starEach [] X.env)).any (·.1) = false := by rfl) : LE X W none (.Call (.Attribute a "index" apos) [b] [] pos) (MP.eIndex ma mb) := by
  obtain ⟨t1, p1, g1⟩ := ha
  obtain ⟨t2, p2, g2⟩ := hb
  refine ⟨_, pe_bm PySem.F.plainAttrs_list PySem.F.slot_list_index PySem.F.type_list_index mt_index p1 (pa_cons p2 pa_nil he) m.base m.few m.line he hplain, fun rho fr mem σ H Q S M h => ?_⟩
  unfold MP.eIndex at h
  rw [Res.wp_bind] at h
  refine g1 rho fr mem σ H _ S M (Res.wp_mono h (fun x m1 h1 r1 v H1 s1 t1 q1 M1 => ?_) fun c m1 h1 => h1)
  cases x with
  | ref n =>
    cases hm : m1[n]? with
    | none => simp [hm] at h1
    | some o => cases o with
      | lst xs =>
        simp only [hm] at h1
        obtain ⟨d, vs, e1, hr, e2, l1⟩ := lst_at M1 q1 hm
        refine ⟨by rw [e1]; exact .inl ⟨rfl, vs, SqL.of e2⟩, ?_⟩
        rw [Res.wp_bind] at h1
        refine g2 r1 fr m1 σ H1 _ (S.mono t1 s1) M1 (Res.wp_mono h1 (fun y m2 h2 r2 w H2 s2 t2 q2 M2 => ?_) fun c m2 h2 => exP.trans h2 s1 t1)
        cases hm2 : m2[n]? with
        | none => simp [hm2] at h2
        | some o2 => cases o2 with
          | lst ys =>
            simp only [hm2] at h2
            split at h2
            · rename_i hf
              cases hj : ys.findIdx? (fun z => MP.eqFl z y) with
              | none => rw [hj] at h2; exact h2.elim
              | some j =>
                rw [hj] at h2
                have hr2 := s2 n d hr
                obtain ⟨us, e3, l3⟩ := M2.get hr2 hm2
                obtain ⟨f1, _⟩ := flats_at q2 hf.1 l3 hf.2
                obtain ⟨hjl, hjt, hjn⟩ := List.findIdx?_eq_some_iff_getElem.mp hj
                obtain ⟨z, hz, qz⟩ := l3.get (List.getElem?_eq_getElem hjl)
                have fz : MP.flat ys[j] = true := List.all_eq_true.mp hf.2 _ (List.getElem_mem hjl)
                refine ⟨d, us, w, j, z, e1, rfl, SqL.of e3, flat_at q2 hf.1, f1, hz, by rw [flat_eq qz q2 fz hf.1]; exact hjt, fun i z' hi hz' => ?_, h2 r2 _ _ (s1.trans s2) (t1.trans t2) (SimV.int _) M2⟩
                have hil : i < ys.length := by omega
                have fi : MP.flat ys[i] = true := List.all_eq_true.mp hf.2 _ (List.getElem_mem hil)
                have qi := simL_get l3 i _ _ (List.getElem?_eq_getElem hil) hz'
                rw [flat_eq qi q2 fi hf.1]
                have := hjn i hi
                simpa using this
            · exact h2.elim
          | _ => simp [hm2] at h2
      | _ => simp [hm] at h1
  | _ => exact h1.elim
end
end ML

/-! MLinkHot: calls in an except suite. -/
namespace ML
open PySem PySem.Spec PyProof.Rows L2 L2H
open MP (MV MO Mem Fr ME MA MT MS MG MI MFn Res SR)
/-- what a def does where p is handled -/
structure FnX (P : Program) (w : World) (K : PySem.W.Frag) (mg : Str → Option Value) (base : Heap) (k : Nat) (f : Addr) (fd : FuncData) (ps : List Str) (sp : Addr × Obj → Sp) : Prop where
  len : ∀ p vs H Q E, sp p vs H Q E → vs.length = ps.length
  run : ∀ (A : Around) (outer : List Env) (s : Shared) (H : Hp) (args : Args) (us : List Value) (vs : List V) (Q : VK) (E : XK) (p : Addr × Obj), RoomH k A → PinOk outer H s p → Env0 P w K mg base A outer s H → BindsTo s fd args (ps.zip us) → Vals vs us → sp p vs H Q E →
    codeAny (model P w) A (.call (.ref f) args) (CR (L2.CX P w) outer P w H s Q E) s
theorem fn_ofX {P : Program} {w : World} {K : PySem.W.Frag} {mg : Str → Option Value} {base : Heap} {x qual : Str} {params : Arguments} {body : List Stmt} {scope : Scope} {f : Addr} {fd : FuncData} {dvs : List V} {N ps : List Str} {k : Nat} {sp : Addr × Obj → Sp} (F : FunD K x qual params body scope dvs [] f fd) (S : FnScope N ps scope)
    (len : ∀ p vs H Q E, sp p vs H Q E → vs.length = ps.length)
    (hbody : ∀ (cdv : Value) (A : Around) (outer : List Env) (s : Shared) (H : Hp) (vs : List V) (Q : VK) (E : XK) (p : Addr × Obj), RoomH k (A.deeper (envOfC qual scope s.heap.objs.size f cdv)) → sp p vs H Q E →
      ∃ t, PSs (cxH (L2.CX P w) P w K mg base N qual scope f cdv A outer s H E p) body t ∧ t { nx := fun _ H' => Q .non H', rt := Q } (L2.start N vs) H) :
    FnX P w K mg base (k + 1) f fd ps sp := by
  obtain ⟨oc, od, dV, kV, doc, pm, an, cdv, ct, osl, rfl, lk, hcd, _, _⟩ := F.ex
  refine ⟨len, fun A outer s H args us vs Q E p hr hpin e0 hb r hsp => ?_⟩
  have hl := len _ _ _ _ _ hsp
  have KX : K.In s.heap := e0.mod.kin.keeps fun b o e => (e0.bs b o e).1
  have lim : s.heap.NoLimit := e0.mod.nolimit.keeps fun b o e => (e0.bs b o e).1
  have hkind : ∀ y ∈ ps.zip us, scope.names.lookup y.1 = some .local ∨ (scope.names.lookup y.1 = some .cell ∧ ((cellsFrom (s.heap.objs.size + 1) scope.names []).lookup y.1).isSome = true) := fun ⟨n, v⟩ hy => by
    rcases S.par n (List.of_mem_zip hy).1 with q | q
    · exact .inl q
    · exact .inr ⟨q, PySem.W.cellsFrom_some _ _ _ (.inl q)⟩
  refine codeAny_call_function hr.depth (KX _ _ lk) rfl S.co S.gen rfl (PySem.W.codeRec_of KX hcd) (hb _ _ _ _ ?_)
  refine wpAny_newFunctionEnv_cells S.kind hkind fun env he s1 x => ?_
  subst he
  refine ⟨lim.keeps x.toInCall.keep, codeAny_func ?_⟩
  obtain ⟨t, ht, hq⟩ := hbody cdv A outer s H vs Q E p (hr.deeper _) hsp
  have I : Inv (cxH (L2.CX P w) P w K mg base N qual scope f cdv A outer s H E p) [] (L2.start N vs) H s1 := inv_startH S hpin e0 hl r x
  refine wpAny_mono (ht.run [] s1 (L2.start N vs) H _ I hq) (fun fl s' hs => ?_) fun e s' hs => hs
  have fin : ∀ {σ' : L2.St} {H' : Hp} {v : V} {u : Value}, Inv (cxH (L2.CX P w) P w K mg base N qual scope f cdv A outer s H E p) [] σ' H' s' → RelV v u → Q v H' → CE outer P w H s Q u s' :=
    fun {σ' H' v u} J rv q => ⟨v, H', J.os, J.bare, J.base, J.hok, rv, q⟩
  cases fl with
  | ret u =>
    obtain ⟨v, σ', H', J, rv, q⟩ := hs
    exact fin J rv q
  | next =>
    obtain ⟨σ', H', J, q⟩ := hs
    exact fin (v := V.non) (u := Value.none) J rfl q
  | brk =>
    obtain ⟨_, _, _, q⟩ := hs
    exact False.elim q
  | cont =>
    obtain ⟨_, _, _, q⟩ := hs
    exact False.elim q
/-- what a def promises where p is handled: nothing is raised -/
def spX (K : PySem.W.Frag) (mg : Str → Option Value) (np : Nat) (f : MFn) (p : Addr × Obj) : Sp := fun vs H Q E => vs.length = np ∧ ∃ (C : Str) (Ca : Addr) (rho : Rho) (xs : List MV) (mem : Mem), mg C = some (.ref Ca) ∧ Zc (.ref Ca) none p.2 ∧ (∃ fs, p.2.data = .fields fs) ∧
  SimL K (some (p.1, C)) rho H xs vs ∧ SimM K mg rho H mem ∧ (f xs mem).wp (okP K mg (some (p.1, C)) rho H Q) (fun _ _ => False)
theorem sims_startX {K : PySem.W.Frag} {ex : ExH} {rho : Rho} {H : Hp} {xs : List MV} {vs : List V} (l : SimL K ex rho H xs vs) (NN : List Str) (nl : Nat) (h : NN.length = vs.length + nl) : SimS K ex rho H (xs.map some ++ List.replicate nl none) (L2.start NN vs) := by
  have hl := l.length
  unfold L2.start
  refine ⟨by simp; omega, fun i x e => ?_⟩
  by_cases hi : i < xs.length
  · rw [List.getElem?_append_left (by simpa using hi), List.getElem?_map] at e
    cases e1 : xs[i]? with
    | none => rw [e1] at e; simp at e
    | some y =>
      rw [e1] at e
      simp only [Option.map_some, Option.some.injEq] at e
      subst e
      obtain ⟨v, h1, h2⟩ := l.get e1
      exact ⟨v, by rw [List.getElem?_append_left (by simp; omega), List.getElem?_map, h1]; rfl, h2⟩
  · rw [List.getElem?_append_right (by simpa using hi)] at e
    rw [List.getElem?_replicate] at e
    split at e <;> cases e
section
variable {P : Program} {w : World} {K : PySem.W.Frag} {mg : Str → Option Value} {base : Heap}
theorem fn_okX {x qual : Str} {params : Arguments} {body : List Stmt} {scope : Scope} {f : Addr} {fd : FuncData} {dvs : List V} {N ps : List Str} {k np nl : Nat} {mb : MS} (F : FunD K x qual params body scope dvs [] f fd) (S : FnScope N ps scope) (hp : ps.length = np) (hn : N.length = np + nl)
    (hb : ∀ (cdv : Value) (A : Around) (outer : List Env) (s : Shared) (H : Hp) (E : XK) (p : Addr × Obj) (C : Str) (Ca : Addr), RoomH k (A.deeper (envOfC qual scope s.heap.objs.size f cdv)) → mg C = some (.ref Ca) → Zc (.ref Ca) none p.2 → (∃ fs, p.2.data = .fields fs) →
      LSs (cxH (L2.CX P w) P w K mg base N qual scope f cdv A outer s H E p) noW (some (p.1, C)) body mb) :
    FnX P w K mg base (k + 1) f fd ps (spX K mg np (MP.fnOf np nl mb)) := by
  refine fn_ofX F S (fun p vs H Q E h => by rw [h.1, hp]) (fun cdv A outer s H vs Q E p hr h => ?_)
  obtain ⟨hl, C, Ca, rho, xs, mem, hC, hz, hf, l, M, q⟩ := h
  obtain ⟨t, p1, g1⟩ := hb cdv A outer s H E p C Ca hr hC hz hf
  refine ⟨t, p1, g1 rho (xs.map some ++ List.replicate nl none) mem _ H _ (sims_startX l N nl (by rw [hn, hl])) M ?_⟩
  unfold MP.fnOf at q
  rw [if_pos (by rw [l.length, hl])] at q
  cases hm : mb (xs.map some ++ List.replicate nl none) mem with
  | nx fr m => rw [hm] at q; exact fun r1 σ H1 s1 t1 _ M1 => q r1 _ H1 s1 t1 (SimV.non.ex0 _) M1
  | rt v m => rw [hm] at q; exact fun r1 u H1 s1 t1 q1 M1 => q r1 u H1 s1 t1 q1 M1
  | bk fr m => rw [hm] at q; exact q.elim
  | ct fr m => rw [hm] at q; exact q.elim
  | exc c fr m => rw [hm] at q; exact q.elim
  | bad => rw [hm] at q; exact q.elim
/-- the def's function, what it does there -/
structure FnMX (P : Program) (w : World) (K : PySem.W.Frag) (mg : Str → Option Value) (base : Heap) (k : Nat) (x : Str) (np : Nat) (f : MFn) : Prop where
  ex : ∃ (fa : Addr) (fd : FuncData) (ps : List Str), mg x = some (.ref fa) ∧ FnX P w K mg base k fa fd ps (spX K mg np f) ∧ PySem.W.keepIn K (.ref fa) = true ∧ Binds K fd ps []
theorem Nm.hot {CX : CXT} {N' : List Str} {qual : Str} {scope : Scope} {f : Addr} {cd : Value} {A : Around} {outer : List Env} {s : Shared} {H : Hp} {E : XK} {p : Addr × Obj} {N : List (Str × Nat × Bool)} {G : List Str} (nm : Nm (cxOf CX P w K mg base N' qual scope f cd A outer s H E) N G) : Nm (cxH CX P w K mg base N' qual scope f cd A outer s H E p) N G := ⟨nm.nd, nm.n, nm.st, nm.gl⟩
end
section
variable {X : Cx} {W : WX} {k : Nat} {f : Addr} {fd : FuncData} {ps : List Str} {sp : Addr × Obj → Sp} {x : Str} {q pos p : Pos} {e : Expr} {es : List Expr} {ms : List ME} {ta : TE} {t : TA} {N : List (Str × Nat × Bool)} {G : List Str}
theorem run_fnX {p : Addr × Obj} {pins : List (Addr × Obj)} {σ : L2.St} {H : Hp} {s : Shared} {Q : VK} {us : List Value} {vs : List V} (F : FnX X.prog X.w X.K X.mg X.base k f fd ps sp) (hr : RoomH k X.A) (hp : p ∈ X.pn) (hb : Binds X.K fd ps [])
    (I : Inv X pins σ H s) (r : Vals vs us) (h : sp p vs H Q (fun _ _ _ => False)) : wpAny (model X.prog X.w) X.A (call (.ref f) us) (EP X pins σ Q) X.xe s := by
  have hl : us.length = ps.length := by rw [← r.length]; exact F.len _ _ _ _ _ h
  have b := hb s us I.kIn (by rw [List.append_nil]; exact hl)
  rw [List.append_nil] at b
  have P1 := I.pin p (List.mem_append_left _ hp)
  have hpin : PinOk X.stack H s p := ⟨P1.1, P1.2.1, fun hm => (List.mem_cons.mp (I.stkSub p.1 hm)).elim P1.2.2.1 P1.2.2.2.1, P1.2.2.2.2⟩
  refine wpAny_call (codeAny_mono (F.run X.A X.stack s H ⟨us, []⟩ us vs Q _ p hr hpin I.env0 b r h) fun r s' hq => ?_)
  cases r with
  | error e =>
    obtain ⟨_, _, _, _, _, _, _, _, _, _, _, _, z⟩ := hq
    exact z.elim
  | ok fl =>
    cases fl with
    | ret u => exact I.after hq
    | next => exact False.elim hq
    | brk => exact False.elim hq
    | cont => exact False.elim hq
theorem pe_callX {p : Addr × Obj} (F : FnX X.prog X.w X.K X.mg X.base k f fd ps sp) (hr : RoomH k X.A) (hp : p ∈ X.pn) (hg : Gl X x) (hm : X.mg x = some (.ref f)) (hk : PySem.W.keepIn X.K (.ref f) = true) (hb : Binds X.K fd ps [])
    (ha : PA X (e :: es) t) (hdb : (x == ("__debug__" : Str)) = false := by decide) (he : starEach (e :: es) X.env = (false, eval e X.env) :: starEach es X.env := by rfl) (hpl : (backTo pos (starEach es X.env)).any (·.1) = false := by rfl) :
    PE X (.Call (.Name x q) (e :: es) [] pos) (fun σ H Q => t σ H fun vs H1 => sp p vs H1 Q (fun _ _ _ => False)) := by
  refine ⟨fun pins s σ H Q I h => ?_⟩
  refine wpAny_Call_Name_kw (ld_glob I hg hm ?_ hdb)
  refine PySem.W.callWith_K (h₀ := X.base) I.ok.mod.kin hk (thn (ha.run pos pins s σ H _ I h) fun us s1 ⟨vs, H1, I1, r, q⟩ => ⟨I1.kIn, ?_⟩) he hpl
  exact run_fnX F hr hp hb I1 r q
theorem le_callX (nm : Nm X N G) (j : Nat) {k np : Nat} {x : Str} {f : MFn} {p : Addr × Obj} {C : Str} {Ca : Addr} (F : FnMX X.prog X.w X.K X.mg X.base k x np f) (hr : RoomH k X.A) (hC : X.mg C = some (.ref Ca)) (hz : Zc (.ref Ca) none p.2) (hf : ∃ vs, p.2.data = .fields vs) (hp : p ∈ X.pn) (ha : LA X W (some (p.1, C)) (e :: es) (MP.aL ms)) (hl : ms.length = np := by rfl) (hx : G[j]? = some x := by rfl)
    (he : starEach (e :: es) X.env = (false, eval e X.env) :: starEach es X.env := by rfl) (hpl : (backTo pos (starEach es X.env)).any (·.1) = false := by rfl) : LE X W (some (p.1, C)) (.Call (.Name x q) (e :: es) [] pos) (MP.eCallN f (MP.aL ms)) := by
  obtain ⟨fa, fd, ps, h1, h2, h3, h4⟩ := F.ex
  obtain ⟨t1, p1, g1⟩ := ha
  refine ⟨_, pe_callX h2 hr hp (nm.gl j x hx).1 h1 h3 h4 p1 (nm.gl j x hx).2.1 he hpl, fun rho fr mem σ H Q S M h => ?_⟩
  unfold MP.eCallN at h
  rw [Res.wp_bind] at h
  refine g1 rho fr mem σ H _ S M ?_
  cases e0 : MP.aL ms fr mem with
  | ok xs m1 =>
    rw [e0] at h
    have hlen' := aL_len e0
    intro r1 vs H1 s1 t1 l1 M1
    refine ⟨by rw [← l1.length, hlen', hl], C, Ca, r1, xs, m1, hC, hz, hf, l1, M1, Res.wp_mono (MP.wp_calm.mp h) (fun y m2 h2 => okP.trans h2 s1 t1) fun c m2 h2 => h2⟩
  | exc c m1 => rw [e0] at h; exact h
  | bad => rw [e0] at h; exact h
end
end ML
namespace ML
open PySem PySem.Spec PyProof.Rows L2 L2H
theorem roomH_suite {k : Nat} {A : Around} {h : Option Value} (r : Room k A) : RoomH k (A.mark h) := ⟨r.dp, r.un⟩
end ML

/-! MLinkTab: a dict of the module with text keys, read by a key. -/
namespace ML
open PySem PySem.Spec PyProof.Rows L2
open MP (MV MO Mem Fr ME MA MT MS MG MI MFn Res SR)
structure GTab (K : PySem.W.Frag) (w : World) (mg : Str → Option Value) (d : Str) (kvs : List (Str × MV)) : Prop where
  ex : ∃ a es n, mg d = some (.ref a) ∧ KDict K w a es n ∧ ∀ z c, kvs.lookup z = some c → ∃ u v, PySem.W.nsIn K a z = some (some u) ∧ RelV v u ∧ ∀ rho H, SimV K none rho H c v
section
variable {X : Cx} {W : WX} {ex : ExH}
theorem le_tab {N : List (Str × Nat × Bool)} {G : List Str} (nm : Nm X N G) (i : Nat) {d : Str} {pos pos2 : Pos} {kvs : List (Str × MV)} {b : Expr} {mb : ME} (g : GTab X.K X.w X.mg d kvs) (hb : LE X W ex b mb) (hs : PlainIx b) (hx : G[i]? = some d := by rfl) : LE X W ex (.Subscript (.Name d pos) b pos2) (MP.e1 (MP.oTab kvs) mb) := by
  obtain ⟨a, es, n, h1, D, h3⟩ := g.ex
  obtain ⟨tb, p2, g2⟩ := hb
  have p1 : PE X (.Name d pos) (tC (.ref a)) := pe_glob (nm.gl i d hx).1 h1 rfl (nm.gl i d hx).2.1
  refine ⟨_, pe_ix ix_kdict p1 p2 hs, fun rho fr mem σ H Q S M h => ?_⟩
  unfold MP.e1 at h
  rw [MP.Res.wp_bind] at h
  show tb σ H fun y H2 => rIxD X.K X.w (.ref a) y H2 Q
  refine g2 rho fr mem σ H _ S M (MP.Res.wp_mono h (fun x m1 h1 rho1 v H1 s1 t1 q1 M1 => ?_) fun c m1 h1 => h1)
  cases x with
  | str z =>
    have hv := str_at q1
    subst hv
    unfold MP.oTab at h1
    simp only at h1
    cases e : kvs.lookup z with
    | none => rw [e] at h1; exact h1.elim
    | some c =>
      rw [e] at h1
      obtain ⟨u, v, n1, r1, q⟩ := h3 z c e
      exact ⟨a, z, v, rfl, rfl, ⟨es, n, u, D.at_, D.lit, n1, r1⟩, h1 rho1 v H1 s1 t1 (SimV.ex0 ex (q rho1 H1)) M1⟩
  | _ => exact h1.elim
end
/-! ### the head: tables -/
section
variable (n : Nat) (fa : List He.Fa) (fn : List He.DefD) (tst : PySem.W.Frag → Bool) (ts : List (Str × List Str))
abbrev AlF : Type := AlE × List (Option (List (Option (Str × Int))))
def obsF (g : Addr → Option Obj) : AlF := (obsE n fa fn tst g, ts.map fun t => He.dicW (He.frG g (He.asD g n)) (He.ga (He.frG g (He.asD g n)) t.1))
def valF (w : World) : AlF := ((He.valD fn, true), ts.map fun t => some (He.keysIn w.params t.2))
def SaysF (w : World) (K : PySem.W.Frag) : Prop := He.SaysD fa fn K ∧ tst K = true ∧ (ts.map fun t => He.dicW K (He.ga K t.1)) = ts.map fun t => some (He.keysIn w.params t.2)
theorem saysF_of {g : Addr → Option Obj} {w : World} (e : obsF n fa fn tst ts g = valF fn ts w) : SaysF fa fn tst ts w (He.frG g (He.asD g n)) :=
  ⟨congrArg (fun z : AlF => z.1.1) e, congrArg (fun z : AlF => z.1.2) e, congrArg (fun z : AlF => z.2) e⟩
def hookF : PySem.W.Hook where
  α := AlF
  obs := fun s => obsF n fa fn tst ts s.heap.get?
  val := fun w => valF fn ts w
  says := fun w h => ∃ K : PySem.W.Frag, K.In h ∧ SaysF fa fn tst ts w K
  of := fun _ _ e => ⟨_, He.frG_in, saysF_of n fa fn tst ts e⟩
  keeps := fun _ _ _ ⟨K, hK, c⟩ k => ⟨K, PySem.W.Frag.In.keeps hK k, c⟩
theorem obsF_eq {g : Addr → Option Obj} {s : Shared} (h : ∀ a, g a = s.heap.get? a) : obsF n fa fn tst ts g = (hookF n fa fn tst ts).obs s := by
  have e : g = s.heap.get? := funext h
  rw [e] <;> rfl
end
def tabT (K : PySem.W.Frag) (x : Str) (kvs : List (Str × MV)) : Bool := kvs.all fun q => match PySem.W.nsIn K (He.ga K x) q.1 with
  | some (some u) => conB K q.2 u
  | _ => false
theorem lookup_mem : ∀ {l : List (Str × MV)} {z : Str} {c : MV}, l.lookup z = some c → (z, c) ∈ l
  | [], z, c, h => by cases h
  | (k, v) :: r, z, c, h => by
    rw [List.lookup_cons] at h
    split at h
    · rename_i e
      cases h
      have : z = k := by simpa using e
      subst this
      exact List.mem_cons_self
    · exact List.mem_cons_of_mem _ (lookup_mem h)
theorem gtab_of {K : PySem.W.Frag} {w : World} {mg : Str → Option Value} {x : Str} {kvs : List (Str × MV)} {ks : List Str} (hx : mg x = some (.ref (He.ga K x))) (hd : He.dicW K (He.ga K x) = some (He.keysIn w.params ks)) (t : tabT K x kvs = true) : GTab K w mg x kvs := by
  obtain ⟨es, n, D⟩ := He.dicW_ok hd
  refine ⟨_, es, n, hx, D, fun z c e => ?_⟩
  have h := List.all_eq_true.mp t _ (lookup_mem e)
  simp only at h
  cases e2 : PySem.W.nsIn K (He.ga K x) z with
  | none => rw [e2] at h; cases h
  | some r =>
    rw [e2] at h
    cases r with
    | none => cases h
    | some u =>
      obtain ⟨v, h1, h2⟩ := conB_ok h
      exact ⟨u, v, rfl, h1, h2⟩
end ML

/-! MLinkG1: d.get(k); zip of two lists. -/
namespace ML
open PySem PySem.Spec PyProof.Rows L2
open MP (MV MO Mem Fr ME MA MT MS MG MI MFn Res SR)
section
variable {X : Cx} {W : WX} {ex : ExH} {a b c e : Expr} {ma mb mc me : ME} {pos p p2 : Pos} {N : List (Str × Nat × Bool)} {G : List Str}
theorem le_get1 {apos : Pos} (hu : X.A.units + 1 < cLine) (ha : LE X W ex a ma) (hb : LE X W ex b mb) (m : M1 X a "get" apos b pos := by exact ⟨rfl, rfl, rfl, rfl⟩) : LE X W ex (.Call (.Attribute a "get" apos) [b] [] pos) (MP.eGet1 ma mb) := by
  obtain ⟨t1, p1, g1⟩ := ha
  obtain ⟨t2, p2, g2⟩ := hb
  refine ⟨_, pe_dget1 hu p1 p2 m, fun rho fr mem σ H Q S M h => ?_⟩
  unfold MP.eGet1 MP.eGet2 at h
  rw [Res.wp_bind] at h
  refine g1 rho fr mem σ H _ S M (Res.wp_mono h (fun x m1 h1 r1 v H1 s1 t1 q1 M1 => ?_) fun c m1 h1 => h1)
  cases x with
  | ref n =>
    simp only at h1
    cases hm : m1[n]? with
    | none => simp [hm] at h1
    | some o => cases o with
      | dct lk kvs =>
        simp only [hm] at h1
        obtain ⟨d, vs, e1, hr, rd, l1⟩ := dct_at M1 q1 hm
        refine ⟨d, e1, .inl ⟨vs, rd⟩, ?_⟩
        rw [Res.wp_bind] at h1
        refine g2 r1 fr m1 σ H1 _ (S.mono t1 s1) M1 (Res.wp_mono h1 (fun y m2 h2 r2 w H2 s2 t2 q2 M2 => ?_) fun c m2 h2 => exP.trans h2 s1 t1)
        simp only [MP.eC, Res.bind_ok] at h2
        have q1' := q1.mono t2 s2
        cases hm3 : m2[n]? with
        | none => simp [hm3] at h2
        | some o3 => cases o3 with
          | dct lk3 kvs3 =>
            cases hk : MP.keyOf y with
            | none => simp [hm3, hk] at h2
            | some k =>
              simp only [hm3, hk, Res.wp_ok] at h2
              obtain ⟨d3, vs3, e3, hr3, rd3, l3⟩ := dct_at M2 q1' hm3
              rw [e1] at e3
              cases e3
              have ew := key_at q2 hk
              refine ⟨valV vs3 k, .inl ⟨vs3, k, rd3, ew, rfl⟩, ?_⟩
              refine h2 r2 _ H2 (s1.trans s2) (t1.trans t2) ?_ M2
              rcases SimK.find k l3 with ⟨h1, h2⟩ | ⟨x, v, h1, h2, h4⟩
              · rw [h1, h2]; exact SimV.non
              · rw [h1, h2]; exact h4
          | _ => simp [hm3] at h2
      | _ => simp [hm] at h1
  | _ => exact h1.elim
/-! ### zip -/
theorem zipM_len (xs ys : List MV) : (MP.zipM xs ys).length = min xs.length ys.length := by unfold MP.zipM; rw [List.length_map, List.length_zip]
theorem notT_pairs {x y : MV} (h : MP.notT x = true) : MP.pairsOf [x, y] = none := by
  cases x <;> first | rfl | cases h
theorem walkm_zip {rho : Rho} {H : Hp} {n k : Nat} {d d2 : Addr} {xs ys : List MV} (hr : rho[n]? = some d) (hr2 : rho[k]? = some d2) (ht : xs.all MP.notT = true) : WalkM X ex rho H ⟨MP.zipM xs ys, fun m => m[n]? = some (.lst xs) ∧ m[k]? = some (.lst ys), none⟩ (Itz X.K d d2) := by
  refine ⟨fun H' => ∃ vs ws, SqL X.K H' d vs ∧ SqL X.K H' d2 ws ∧ vs.length = xs.length ∧ ws.length = ys.length, fun i H v H' => ∃ T x y, v = .ref T ∧ H T = none ∧ H' = upd H T (.tup [x, y]) ∧ (∀ xs, SqL X.K H d xs → xs[i]? = some x) ∧ ∀ ys, SqL X.K H d2 ys → ys[i]? = some y, ⟨fun i H' hi q => ?_, fun H' q => ?_, fun i H' x H2 hi q y => y⟩, fun rho1 H1 m1 s t M kp => ?_⟩
  · obtain ⟨vs, ws, q1, q2, l1, l2⟩ := q
    have hi0 : i < min xs.length ys.length := by rw [← zipM_len]; exact hi
    have h1 : i < vs.length := by omega
    have h2 : i < ws.length := by omega
    exact ⟨vs, ws, vs[i], ws[i], q1, q2, by simp [h1], by simp [h2]⟩
  · obtain ⟨vs, ws, q1, q2, l1, l2⟩ := q
    refine ⟨vs, ws, q1, q2, ?_⟩
    show vs.length ≤ (MP.zipM xs ys).length ∨ ws.length ≤ (MP.zipM xs ys).length
    rw [zipM_len]
    omega
  · obtain ⟨kp1, kp2⟩ := kp
    obtain ⟨vs, h1, l1⟩ := M.get (s n d hr) kp1
    obtain ⟨ws, h2, l2⟩ := M.get (s k d2 hr2) kp2
    refine ⟨⟨vs, ws, SqL.of h1, SqL.of h2, l1.length.symm, l2.length.symm⟩, fun i v H2 hi y => ?_⟩
    obtain ⟨T, x, z, rfl, hT, rfl, e1, e2⟩ := y
    have hi0 : i < min xs.length ys.length := by rw [← zipM_len]; exact hi
    have hx : i < xs.length := by omega
    have hy : i < ys.length := by omega
    obtain ⟨v1, f1, q1⟩ := l1.get (i := i) (x := xs[i]) (by simp [hx])
    obtain ⟨v2, f2, q2⟩ := l2.get (i := i) (x := ys[i]) (by simp [hy])
    rw [e1 vs (SqL.of h1)] at f1; cases f1
    rw [e2 ws (SqL.of h2)] at f2; cases f2
    have st := Stay.new (o := .tup [x, z]) hT
    have hn : MP.notT xs[i] = true := List.all_eq_true.mp ht _ (List.getElem_mem _)
    refine ⟨st, fun m hm => hm.fresh hT, .tup [xs[i], ys[i]], ?_, ?_⟩
    · unfold MP.zipM
      have hzl : i < (xs.zip ys).length := by rw [List.length_zip]; exact hi0
      rw [List.getElem?_map, List.getElem?_eq_getElem hzl, List.getElem_zip]
      rfl
    · unfold SimV
      exact ⟨T, _, rfl, SqT.of upd_same, fun z => absurd (notT_pairs hn) z, SimL.cons ((q1.ex0 ex).mono st (Sub.refl _)) (SimL.cons ((q2.ex0 ex).mono st (Sub.refl _)) SimL.nil)⟩
theorem li_zip {elts : List Expr} {kk : Nat} {tpos : Pos} (nm : Nm X N G) (j : Nat) (hm : X.mg "zip" = none) (ha : LE X W ex a ma) (hb : LE X W ex b mb) (hx : G[j]? = some "zip" := by rfl)
    (hs : starEach [a, b] X.env = (false, eval a X.env) :: starEach [b] X.env := by rfl) (hs2 : starEach [b] X.env = (false, eval b X.env) :: starEach [] X.env := by rfl) (hpl : (backTo pos (starEach [b] X.env)).any (·.1) = false := by rfl) :
    LI X W ex (.Tuple elts kk tpos) (.Call (.Name "zip" p) [a, b] [] pos) (MP.iZip ma mb) := by
  obtain ⟨t1, p1, g1⟩ := ha
  obtain ⟨t2, p2', g2⟩ := hb
  have pa := pa_cons p1 (pa_cons p2' pa_nil hs2) hs
  refine ⟨_, pi_zip (nm.gl j _ hx).1 hm pa hs hpl, fun rho fr mem σ H R S M h => ?_⟩
  unfold MP.iZip at h
  rw [Res.wp_bind] at h
  refine g1 rho fr mem σ H _ S M (Res.wp_mono h (fun x m1 h1 r1 v H1 s1 t1 q1 M1 => ?_) fun c m1 h1 => h1)
  rw [Res.wp_bind] at h1
  refine g2 r1 fr m1 σ H1 _ (S.mono t1 s1) M1 (Res.wp_mono h1 (fun y m2 h2 r2 w H2 s2 t2 q2 M2 => ?_) fun c m2 h2 => exP.trans h2 s1 t1)
  cases x with
  | ref n => cases y with
    | ref k =>
      simp only at h2
      cases hm1 : m2[n]? with
      | none => simp [hm1] at h2
      | some o1 => cases o1 with
        | lst xs => cases hm2 : m2[k]? with
          | none => simp [hm1, hm2] at h2
          | some o2 => cases o2 with
            | lst ys =>
              simp only [hm1, hm2] at h2
              by_cases hz : xs.all MP.notT = true
              · rw [if_pos hz] at h2
                obtain ⟨d, vs, e1, hr, f1, l1⟩ := lst_at M2 (q1.mono t2 s2) hm1
                obtain ⟨d2, ws, e2, hr2, f2, l2⟩ := lst_at M2 q2 hm2
                exact ⟨d, d2, vs, ws, by rw [e1, e2], SqL.of f1, SqL.of f2, h2 r2 H2 (s1.trans s2) (t1.trans t2) M2 _ (walkm_zip hr hr2 hz)⟩
              · rw [if_neg hz] at h2; exact h2.elim
            | _ => simp [hm1, hm2] at h2
        | _ => simp [hm1] at h2
    | _ => exact h2.elim
  | _ => exact h2.elim
end
end ML

/-! MLinkQ1: raise C(e); defaults; f-strings. -/
namespace ML
open PySem PySem.Spec PyProof.Rows L2
open MP (MV MO Mem Fr ME MA MT MS MG MI MFn Res SR)
section
variable {X : Cx} {W : WX} {ex : ExH} {a b c e : Expr} {es : List Expr} {ms : List ME} {ma mb mc me : ME} {pos p p2 : Pos} {N : List (Str × Nat × Bool)} {G : List Str}
theorem ls_raiseE (nm : Nm X N G) (j : Nat) {C : Str} {p3 : Pos} (hc : X.calm = true) (tk : Takes X W) (F : ExcFact X.K X.mg C) (he : LE X W ex e me) (hx : G[j]? = some C := by rfl) (hs : starEach [e] X.env = (false, eval e X.env) :: starEach [] X.env := by rfl) :
    LS X W ex (.Raise (some (.Call (.Name C p) [e] [] p3)) none pos) (MP.sRaiseE C me) := by
  obtain ⟨Ca, bmB, B, newId, initId, F, h1, h2, h3, h4, h5⟩ := F.ex
  obtain ⟨t1, p1, g1⟩ := he
  refine ⟨_, ps_raise hc tk (SkE.pmk_own1 F h2 h1 h3 (raises_own h4 h5) (nm.gl j C hx).1 p1 hs (nm.gl j C hx).2.1), fun rho fr mem σ H D S M h => ?_⟩
  unfold MP.sRaiseE at h
  rw [wp_ofRes] at h
  exact g1 rho fr mem σ H _ S M (Res.wp_mono h (fun x m1 h1' r1 v H1 s1 t1 q1 M1 => h1' r1 Ca σ H1 s1 t1 h1 (S.mono t1 s1) M1) fun c m1 h1' => ex_exP h1' S (Sub.refl _) (Stay.refl _))
/-! ### f-strings -/
theorem le_fmt (he : LE X W ex e me) : LE X W ex (.FormattedValue e (-1) none pos) (MP.e1 MP.oFmt me) := by
  obtain ⟨t1, p1, g1⟩ := he
  refine ⟨_, pe_fmt p1, fun rho fr mem σ H Q S M h => ?_⟩
  unfold MP.e1 at h
  rw [Res.wp_bind] at h
  refine g1 rho fr mem σ H _ S M (Res.wp_mono h (fun x m1 h1 r1 v H1 s1 t1 q1 M1 => ?_) fun c m1 h1 => h1)
  cases x <;> first | exact h1.elim | skip
  · rename_i i
    right
    have q := h1
    simp only [MP.oFmt, MP.oStrI] at q
    split at q
    · rename_i hc
      refine ⟨i, int_at q1, ?_, okP.at (okP.trans q s1 t1) (SimV.str _) M1⟩
      by_cases h0 : i.natAbs = 0
      · rw [h0]; decide
      · have : i.natAbs < 2 ^ 1900 := by unfold MP.STRB at hc; exact hc
        have := (Nat.log2_lt h0).mpr this
        omega
    · exact q.elim
  · rename_i y
    left
    have q := h1
    simp only [MP.oFmt] at q
    split at q
    · rename_i hc
      exact ⟨y, str_at q1, by rw [← line_eq]; exact hc, okP.at (okP.trans q s1 t1) (SimV.str _) M1⟩
    · exact q.elim
def LJ (X : Cx) (W : WX) (ex : ExH) (es : List Expr) (ms : List ME) : Prop := ∃ ts, PJ X es ts ∧ ∀ (acc : Str) (rho : Rho) (fr : Fr) (mem : Mem) (σ : L2.St) (H : Hp) (Q : Str → Hp → Prop), SimS X.K ex rho H fr σ → SimM X.K X.mg rho H mem →
  (MP.js ms acc fr mem).wp (fun out m => ∀ rho' H', Sub rho rho' → Stay H H' → SimM X.K X.mg rho' H' m → Q out H') (exP X.K X.mg rho H σ W) → tJs ts acc σ H Q
theorem lj_nil : LJ X W ex [] [] := ⟨[], .nil, fun acc rho fr mem σ H Q S M h => h rho H (Sub.refl _) (Stay.refl _) M⟩
theorem lj_cons (he : LE X W ex e me) (hr : LJ X W ex es ms) : LJ X W ex (e :: es) (me :: ms) := by
  obtain ⟨t1, p1, g1⟩ := he
  obtain ⟨ts, p2, g2⟩ := hr
  refine ⟨t1 :: ts, .cons p1 p2, fun acc rho fr mem σ H Q S M h => ?_⟩
  unfold MP.js at h
  rw [Res.wp_bind] at h
  refine g1 rho fr mem σ H _ S M (Res.wp_mono h (fun x m1 h1 r1 v H1 s1 t1 q1 M1 => ?_) fun c m1 h1 => h1)
  cases x <;> first | exact h1.elim | skip
  rename_i y
  simp only at h1
  split at h1
  · rename_i hc
    refine ⟨y, str_at q1, by rw [← line_eq]; exact hc, ?_⟩
    exact g2 (acc ++ y) r1 fr m1 σ H1 Q (S.mono t1 s1) M1 (Res.wp_mono h1 (fun out m2 h2 r2 H2 s2 t2 M2 => h2 r2 H2 (s1.trans s2) (t1.trans t2) M2) fun c m2 h2 => exP.trans h2 s1 t1)
  · exact h1.elim
theorem le_joined {v1 v2 : Expr} {rest : List Expr} (h : LJ X W ex (v1 :: v2 :: rest) ms) : LE X W ex (.JoinedStr (v1 :: v2 :: rest) pos) (MP.eFs ms) := by
  obtain ⟨ts, p1, g1⟩ := h
  refine ⟨_, pe_joined p1, fun rho fr mem σ H Q S M h => ?_⟩
  unfold MP.eFs at h
  rw [Res.wp_bind] at h
  exact g1 Str.empty rho fr mem σ H _ S M (Res.wp_mono h (fun out m1 h1 r1 H1 s1 t1 M1 => okP.at (okP.trans h1 s1 t1) (SimV.str _) M1) fun c m1 h1 => h1)
/-! ### defaults -/
/-- a flat value -/
def flatV : MV → Option V
  | .non => some .non
  | .bl b => some (.bl b)
  | .int i => some (.int i)
  | .str z => some (.str z)
  | _ => none
structure FnMD (P : Program) (w : World) (K : PySem.W.Frag) (mg : Str → Option Value) (base : Heap) (k : Nat) (x : Str) (np : Nat) (f : MFn) (d : MV) (dv : V) : Prop where
  ex : ∃ (fa : Addr) (fd : FuncData) (ps : List Str) (ds : List Value), mg x = some (.ref fa) ∧ FnOk P w K mg base (L2.CX P w) k fa fd ps (spM K mg np f) ∧ PySem.W.keepIn K (.ref fa) = true ∧ Binds K fd ps ds ∧ Vals [dv] ds
  fl : flatV d = some dv
theorem flat_sim {K : PySem.W.Frag} {rho : Rho} {H : Hp} {d : MV} {dv : V} (h : flatV d = some dv) : SimV K ex rho H d dv := by
  cases d <;> first | (cases h; done) | skip
  · cases h; exact SimV.non
  · cases h; exact SimV.bl _
  · cases h; exact SimV.int _
  · cases h; exact SimV.str _
theorem aL_snoc (d : MV) (fr : Fr) : ∀ (ms : List ME) (m : Mem), MP.aL (ms ++ [MP.eC d]) fr m = (MP.aL ms fr m).bind fun xs m1 => .ok (xs ++ [d]) m1
  | [], m => rfl
  | a :: r, m => by
    show MP.aCons a (MP.aL (r ++ [MP.eC d])) fr m = (MP.aCons a (MP.aL r) fr m).bind _
    unfold MP.aCons
    cases e1 : a fr m with
    | ok x m2 =>
      simp only [Res.bind_ok]
      rw [aL_snoc d fr r m2]
      cases e2 : MP.aL r fr m2 with
      | ok ys m3 => rfl
      | exc c m3 => rfl
      | bad => rfl
    | exc c m2 => rfl
    | bad => rfl
theorem aL_lenQ {fr : Fr} : ∀ {ms : List ME} {mem : Mem} {xs : List MV} {m1 : Mem}, (MP.aL ms fr mem) = .ok xs m1 → xs.length = ms.length
  | [], mem, xs, m1, e => by cases e; rfl
  | a :: r, mem, xs, m1, e => by
    change MP.aCons a (MP.aL r) fr mem = _ at e
    unfold MP.aCons at e
    cases e1 : a fr mem with
    | ok x m2 =>
      rw [e1] at e
      simp only [Res.bind_ok] at e
      cases e2 : MP.aL r fr m2 with
      | ok ys m3 =>
        rw [e2] at e
        simp only [Res.bind_ok] at e
        cases e
        rw [List.length_cons, List.length_cons, aL_lenQ e2]
      | exc c m3 => rw [e2] at e; cases e
      | bad => rw [e2] at e; cases e
    | exc c m2 => rw [e1] at e; cases e
    | bad => rw [e1] at e; cases e
theorem simL_snoc {K : PySem.W.Frag} {rho : Rho} {H : Hp} {x : MV} {v : V} (q : SimV K ex rho H x v) : ∀ {xs : List MV} {vs : List V}, SimL K ex rho H xs vs → SimL K ex rho H (xs ++ [x]) (vs ++ [v])
  | [], vs, l => by rw [l.inv_nil]; exact .cons q .nil
  | y :: ys, vs, l => by
    obtain ⟨w, ws, rfl, q1, l1⟩ := l.inv_cons
    exact .cons q1 (simL_snoc q l1)
theorem le_callD (nm : Nm X N G) (j : Nat) {k np : Nat} {x : Str} {f : MFn} {d : MV} {dv : V} (F : FnMD X.prog X.w X.K X.mg X.base k x np f d dv) (hr : Room k X.A) (tk : Takes X W) (ha : LA X W none (e :: es) (MP.aL ms)) (hl : ms.length + 1 = np := by rfl) (hx : G[j]? = some x := by rfl)
    (he : starEach (e :: es) X.env = (false, eval e X.env) :: starEach es X.env := by rfl) (hpl : (backTo pos (starEach es X.env)).any (·.1) = false := by rfl) : LE X W none (.Call (.Name x p) (e :: es) [] pos) (MP.eCall f (MP.aL (ms ++ [MP.eC d]))) := by
  obtain ⟨fa, fd, ps, ds, h1, h2, h3, h4, h5⟩ := F.ex
  obtain ⟨t1, p1, g1⟩ := ha
  refine ⟨_, pe_callSD h2 hr (nm.gl j x hx).1 h1 h3 h4 h5 (passAt tk) p1 (nm.gl j x hx).2.1 he hpl, fun rho fr mem σ H Q S M h => ?_⟩
  unfold MP.eCall at h
  rw [aL_snoc, Res.wp_bind, Res.wp_bind] at h
  refine g1 rho fr mem σ H _ S M ?_
  cases e0 : MP.aL ms fr mem with
  | ok xs m1 =>
    rw [e0] at h
    have hlen' := aL_lenQ e0
    intro r1 vs H1 s1 t1 l1 M1
    refine ⟨by rw [List.length_append, ← l1.length, hlen']; exact hl, r1, xs ++ [d], m1, simL_snoc (flat_sim F.fl) l1, M1, Res.wp_mono h (fun y m2 h2 => okP.trans h2 s1 t1) fun c m2 h2 => ?_⟩
    exact fun r2 C H2 s2 t2 e2 M2 => h2 r2 C H2 (s1.trans s2) (t1.trans t2) e2 M2
  | exc c m1 => rw [e0] at h; exact h
  | bad => rw [e0] at h; exact h
end
end ML

namespace MF
open PySem MP

/-- _law_fresh(_law_script); 0=_law_script -/
noncomputable def b_L_fresh_5c16a1 : MP.MS := MP.sRet (MP.eLst (MP.aL [MP.eCut (MP.eVar 0) none (some (MP.eInt 63)), MP.eInt 0, MP.eInt 0, MP.eC (.bl false)]))
noncomputable def f_L_fresh_5c16a1 : MP.MFn := MP.fnOf 1 0 b_L_fresh_5c16a1
/-- _law_mixed(_law_seed); 0=_law_seed 1=_law_primes 2=_law_number_here 3=_law_k 4=_law_prime 5=_law_far 6=_law_square 7=_law_power -/
noncomputable def b_L_mixed_8bea50 : MP.MS := MP.sSeq (MP.sSet 1 (MP.eTup (MP.aL [MP.eInt 2147483647, MP.eInt 2147483629, MP.eInt 2147483587, MP.eInt 2147483579, MP.eInt 2147483563]))) (MP.sSeq (MP.sSet 2 (MP.eInt 0)) (MP.sSeq (MP.sFor (MP.iEnum (MP.eVar 1)) (MP.gTup [MP.gName 3, MP.gName 4]) (MP.sSeq (MP.sSet 5 (MP.e2 MP.oAdd (MP.eVar 0) (MP.e2 MP.oIx (MP.eTup (MP.aL [MP.eInt 11, MP.eInt 101, MP.eInt 1009, MP.eInt 10007, MP.eInt 100003])) (MP.eVar 3)))) (MP.sSeq (MP.sSet 5 (MP.e2 MP.oMod (MP.e2 MP.oMul (MP.eVar 5) (MP.e2 MP.oAdd (MP.eInt 48271) (MP.e2 MP.oMul (MP.eInt 2) (MP.eVar 3)))) (MP.eVar 4))) (MP.sSeq (MP.sSet 6 (MP.e2 MP.oMod (MP.e2 MP.oMul (MP.eVar 5) (MP.eVar 5)) (MP.eVar 4))) (MP.sSeq (MP.sSet 7 (MP.e2 MP.oMod (MP.e2 MP.oMul (MP.e2 MP.oMod (MP.e2 MP.oMul (MP.eVar 6) (MP.eVar 6)) (MP.eVar 4)) (MP.eVar 5)) (MP.eVar 4))) (MP.sSet 2 (MP.e2 MP.oAdd (MP.e2 MP.oMul (MP.eVar 2) (MP.eVar 4)) (MP.eVar 7)))))))) (MP.sRet (MP.eVar 2))))
noncomputable def f_L_mixed_8bea50 : MP.MFn := MP.fnOf 1 7 b_L_mixed_8bea50
/-- _law_fill(_law_state); 0=_law_state 1=_law_cells 2=_law_at 3=_law_seed -/
noncomputable def b_L_fill_107c3d : MP.MS := MP.sSeq (MP.sPar 1 2 (MP.e2 MP.oIx (MP.eVar 0) (MP.eInt 0)) (MP.e2 MP.oIx (MP.eVar 0) (MP.eInt 1))) (MP.sSeq (MP.sSet 3 (MP.e2 MP.oAdd (MP.e2 MP.oMul (MP.eInt 31) (MP.eVar 2)) (MP.eInt 7))) (MP.sSeq (MP.sIf (MP.tB (MP.e2 MP.oGt (MP.e1 MP.oLen (MP.eVar 1)) (MP.eInt 0))) (MP.sSeq (MP.sSet 3 (MP.e2 MP.oMul (MP.eInt 104729) (MP.e2 MP.oDiv (MP.eVar 2) (MP.e1 MP.oLen (MP.eVar 1))))) (MP.sSet 3 (MP.e2 MP.oAdd (MP.eVar 3) (MP.e2 MP.oIx (MP.eVar 1) (MP.e2 MP.oMod (MP.eVar 2) (MP.e1 MP.oLen (MP.eVar 1))))))) MP.sPass) (MP.sSeq (MP.sAsg (MP.e2 MP.oAdd (MP.eVar 2) (MP.eInt 1)) (MP.gSub (MP.eVar 0) (MP.eInt 1))) (MP.sSeq (MP.sAsg (MP.eOr (MP.e2 MP.oGe (MP.eVar 2) (MP.e1 MP.oLen (MP.eVar 1))) (MP.e2 MP.oLt (MP.eVar 3) (MP.eInt (10 ^ 18)))) (MP.gSub (MP.eVar 0) (MP.eInt 3))) (MP.sIf (MP.tE (MP.e2 MP.oIx (MP.eVar 0) (MP.eInt 3))) (MP.sAsg (MP.eCall f_L_mixed_8bea50 (MP.aL [MP.eVar 3])) (MP.gSub (MP.eVar 0) (MP.eInt 2))) (MP.sAsg (MP.e2 MP.oSub (MP.eVar 3) (MP.eInt (10 ^ 18))) (MP.gSub (MP.eVar 0) (MP.eInt 2))))))))
noncomputable def f_L_fill_107c3d : MP.MFn := MP.fnOf 1 3 b_L_fill_107c3d
/-- _law_take(_law_state, _law_many); 0=_law_state 1=_law_many 2=_law_turns 3=_law_digit -/
noncomputable def b_L_take_f2d2c3 : MP.MS := MP.sSeq (MP.sSet 2 (MP.eInt 0)) (MP.sSeq (MP.sWhile (MP.tAnd (MP.tB (MP.e2 MP.oLt (MP.eVar 2) (MP.eInt 64))) (MP.tOr (MP.tB (MP.e2 MP.oEq (MP.e2 MP.oIx (MP.eVar 0) (MP.eInt 2)) (MP.eInt 0))) (MP.tAnd (MP.tE (MP.e2 MP.oIx (MP.eVar 0) (MP.eInt 3))) (MP.tB (MP.e2 MP.oLt (MP.e2 MP.oIx (MP.eVar 0) (MP.eInt 2)) (MP.e2 MP.oMul (MP.eVar 1) (MP.eInt 4096))))))) (MP.sSeq (MP.sExpr (MP.eCall f_L_fill_107c3d (MP.aL [MP.eVar 0]))) (MP.sSeq (MP.sAug 2 (MP.eInt 1)) (MP.sIf (MP.tAnd (MP.tE (MP.e2 MP.oIx (MP.eVar 0) (MP.eInt 3))) (MP.tB (MP.e2 MP.oLt (MP.e2 MP.oIx (MP.eVar 0) (MP.eInt 2)) (MP.e2 MP.oMul (MP.eVar 1) (MP.eInt 4096))))) (MP.sAsg (MP.e2 MP.oAdd (MP.e2 MP.oIx (MP.eVar 0) (MP.eInt 2)) (MP.e2 MP.oMul (MP.e2 MP.oMul (MP.eVar 1) (MP.eInt 4096)) (MP.e2 MP.oAdd (MP.eInt 1) (MP.e2 MP.oMod (MP.e2 MP.oIx (MP.eVar 0) (MP.eInt 2)) (MP.eInt 4093))))) (MP.gSub (MP.eVar 0) (MP.eInt 2))) MP.sPass)))) (MP.sSeq (MP.sSet 3 (MP.e2 MP.oMod (MP.e2 MP.oIx (MP.eVar 0) (MP.eInt 2)) (MP.eVar 1))) (MP.sSeq (MP.sAsg (MP.e2 MP.oDiv (MP.e2 MP.oIx (MP.eVar 0) (MP.eInt 2)) (MP.eVar 1)) (MP.gSub (MP.eVar 0) (MP.eInt 2))) (MP.sRet (MP.eVar 3)))))
noncomputable def f_L_take_f2d2c3 : MP.MFn := MP.fnOf 2 2 b_L_take_f2d2c3
/-- _law_some_name(_law_state); 0=_law_state 1=_law_letters 2=_law_own 3=_law_way 4=_law_word 5=_law_k -/
noncomputable def b_L_some_name_bb4a29 : MP.MS := MP.sSeq (MP.sSet 1 (MP.eStr "abcdefghijklmnopqrstuvwxyz")) (MP.sSeq (MP.sSet 2 (MP.eTup (MP.aL [MP.eStr "is", MP.eStr "most", MP.eStr "least", MP.eStr "below", MP.eStr "above", MP.eStr "tell", MP.eStr "open", MP.eStr "none", MP.eStr "first", MP.eStr "point", MP.eStr "mark", MP.eStr "x"]))) (MP.sSeq (MP.sSet 3 (MP.eCall f_L_take_f2d2c3 (MP.aL [MP.eVar 0, MP.eInt 4]))) (MP.sSeq (MP.sSet 4 (MP.eJoin (MP.eStr "") (MP.eComp [5] (MP.iRange1 (MP.e2 MP.oAdd (MP.eInt 1) (MP.eCall f_L_take_f2d2c3 (MP.aL [MP.eVar 0, MP.eInt 6])))) (MP.gName 5) MP.tYes (MP.e2 MP.oIx (MP.eVar 1) (MP.eCall f_L_take_f2d2c3 (MP.aL [MP.eVar 0, MP.eInt 26])))))) (MP.sRet (MP.e2 MP.oIx (MP.eTup (MP.aL [MP.eVar 4, MP.e2 MP.oIx (MP.eVar 2) (MP.eCall f_L_take_f2d2c3 (MP.aL [MP.eVar 0, MP.eInt 12])), MP.eCut (MP.eVar 4) none (some (MP.eInt 1)), MP.eVar 4])) (MP.eVar 3))))))
noncomputable def f_L_some_name_bb4a29 : MP.MFn := MP.fnOf 1 5 b_L_some_name_bb4a29
/-- _law_names(_law_state, _law_many); 0=_law_state 1=_law_many 2=_law_letters 3=_law_names_here 4=_law_k 5=_law_name 6=_law_turns -/
noncomputable def b_L_names_83ad55 : MP.MS := MP.sSeq (MP.sSet 2 (MP.eStr "abcdefghijklmnopqrstuvwxyz")) (MP.sSeq (MP.sSet 3 (MP.eLst (MP.aL []))) (MP.sSeq (MP.sFor (MP.iRange1 (MP.eVar 1)) (MP.gName 4) (MP.sSeq (MP.sSet 5 (MP.eCall f_L_some_name_bb4a29 (MP.aL [MP.eVar 0]))) (MP.sSeq (MP.sSet 6 (MP.eInt 0)) (MP.sSeq (MP.sWhile (MP.tAnd (MP.tB (MP.e2 MP.oIn (MP.eVar 5) (MP.eVar 3))) (MP.tB (MP.e2 MP.oLt (MP.eVar 6) (MP.eInt 60)))) (MP.sSeq (MP.sSet 5 (MP.e2 MP.oMul (MP.e2 MP.oIx (MP.eVar 2) (MP.e2 MP.oMod (MP.e2 MP.oAdd (MP.e2 MP.oMul (MP.eInt 7) (MP.eVar 6)) (MP.eVar 4)) (MP.eInt 26))) (MP.e2 MP.oAdd (MP.eInt 1) (MP.e2 MP.oDiv (MP.eVar 6) (MP.eInt 26))))) (MP.sAug 6 (MP.eInt 1)))) (MP.sExpr (MP.eAppend (MP.eVar 3) (MP.eVar 5))))))) (MP.sRet (MP.eVar 3))))
noncomputable def f_L_names_83ad55 : MP.MFn := MP.fnOf 2 5 b_L_names_83ad55
/-- fraction_text(number); 0=number -/
noncomputable def b_fraction_text_b06341 : MP.MS := MP.sSeq (MP.sIf (MP.tB (MP.e2 MP.oEq (MP.e2 MP.oIx (MP.eVar 0) (MP.eInt 1)) (MP.eInt 1))) (MP.sRet (MP.e1 MP.oStrI (MP.e2 MP.oIx (MP.eVar 0) (MP.eInt 0)))) MP.sPass) (MP.sRet (MP.e2 MP.oAdd (MP.e2 MP.oAdd (MP.e1 MP.oStrI (MP.e2 MP.oIx (MP.eVar 0) (MP.eInt 0))) (MP.eStr "/")) (MP.e1 MP.oStrI (MP.e2 MP.oIx (MP.eVar 0) (MP.eInt 1)))))
noncomputable def f_fraction_text_b06341 : MP.MFn := MP.fnOf 1 0 b_fraction_text_b06341
/-- point_text(point); 0=point 1=words 2=unknown -/
noncomputable def b_point_text_bda4de : MP.MS := MP.sSeq (MP.sSet 1 (MP.eComp [2] (MP.iSeq (MP.e1 MP.oSortAny (MP.eVar 0))) (MP.gName 2) MP.tYes (MP.e2 MP.oAdd (MP.e2 MP.oAdd (MP.eVar 2) (MP.eStr " = ")) (MP.eCall f_fraction_text_b06341 (MP.aL [MP.e2 MP.oIx (MP.eVar 0) (MP.eVar 2)]))))) (MP.sRet (MP.eOrT (MP.eJoin (MP.eStr ", ") (MP.eVar 1)) (MP.eStr "nothing")))
noncomputable def f_point_text_bda4de : MP.MFn := MP.fnOf 1 2 b_point_text_bda4de
/-- shares_text(shares); 0=shares -/
noncomputable def b_shares_text_e02e58 : MP.MS := MP.sRet (MP.eCall f_point_text_bda4de (MP.aL [MP.eVar 0]))
noncomputable def f_shares_text_e02e58 : MP.MFn := MP.fnOf 1 0 b_shares_text_e02e58
/-- _law_fraction_text(_law_number_here); 0=_law_number_here -/
noncomputable def b_L_fraction_text_a4f65c : MP.MS := MP.sSeq (MP.sIf (MP.tB (MP.e2 MP.oEq (MP.e2 MP.oIx (MP.eVar 0) (MP.eInt 1)) (MP.eInt 1))) (MP.sRet (MP.e1 MP.oStrI (MP.e2 MP.oIx (MP.eVar 0) (MP.eInt 0)))) MP.sPass) (MP.sRet (MP.eFs [MP.e1 MP.oFmt (MP.e2 MP.oIx (MP.eVar 0) (MP.eInt 0)), MP.eStr "/", MP.e1 MP.oFmt (MP.e2 MP.oIx (MP.eVar 0) (MP.eInt 1))]))
noncomputable def f_L_fraction_text_a4f65c : MP.MFn := MP.fnOf 1 0 b_L_fraction_text_a4f65c
/-- _law_listed(_law_one); 0=_law_one 1=_law_words 2=_law_key -/
noncomputable def b_L_listed_7e5a9d : MP.MS := MP.sSeq (MP.sSet 1 (MP.eComp [2] (MP.iSeq (MP.e1 MP.oSortAny (MP.eVar 0))) (MP.gName 2) MP.tYes (MP.e2 MP.oAdd (MP.e2 MP.oAdd (MP.eVar 2) (MP.eStr " = ")) (MP.eCall f_L_fraction_text_a4f65c (MP.aL [MP.e2 MP.oIx (MP.eVar 0) (MP.eVar 2)]))))) (MP.sSeq (MP.sIf (MP.tB (MP.e2 MP.oEq (MP.e1 MP.oLen (MP.eVar 1)) (MP.eInt 0))) (MP.sRet (MP.eStr "nothing")) MP.sPass) (MP.sRet (MP.eJoin (MP.eStr ", ") (MP.eVar 1))))
noncomputable def f_L_listed_7e5a9d : MP.MFn := MP.fnOf 1 2 b_L_listed_7e5a9d
/-- _law_shared(_law_one, _law_other); 0=_law_one 1=_law_other -/
noncomputable def b_L_shared_8239fc : MP.MS := MP.sSeq (MP.sPar 0 1 (MP.e1 MP.oAbs (MP.eVar 0)) (MP.e1 MP.oAbs (MP.eVar 1))) (MP.sSeq (MP.sWhile (MP.tB (MP.e2 MP.oGt (MP.eVar 1) (MP.eInt 0))) (MP.sPar 0 1 (MP.eVar 1) (MP.e2 MP.oMod (MP.eVar 0) (MP.eVar 1)))) (MP.sRet (MP.eVar 0)))
noncomputable def f_L_shared_8239fc : MP.MFn := MP.fnOf 2 0 b_L_shared_8239fc
/-- _law_frac(_law_top, _law_bottom); 0=_law_top 1=_law_bottom 2=_law_by -/
noncomputable def b_L_frac_99180f : MP.MS := MP.sSeq (MP.sSet 2 (MP.eCall f_L_shared_8239fc (MP.aL [MP.eVar 0, MP.eVar 1]))) (MP.sSeq (MP.sIf (MP.tB (MP.e2 MP.oLt (MP.eVar 1) (MP.eInt 0))) (MP.sSet 2 (MP.e2 MP.oSub (MP.eInt 0) (MP.eVar 2))) MP.sPass) (MP.sRet (MP.eTup (MP.aL [MP.e2 MP.oDiv (MP.eVar 0) (MP.eVar 2), MP.e2 MP.oDiv (MP.eVar 1) (MP.eVar 2)]))))
noncomputable def f_L_frac_99180f : MP.MFn := MP.fnOf 2 1 b_L_frac_99180f
/-- _law_number(_law_state); 0=_law_state 1=_law_way 2=_law_small 3=_law_great 4=_law_under -/
noncomputable def b_L_number_13ee60 : MP.MS := MP.sSeq (MP.sSet 1 (MP.eCall f_L_take_f2d2c3 (MP.aL [MP.eVar 0, MP.eInt 6]))) (MP.sSeq (MP.sSet 2 (MP.e2 MP.oSub (MP.eCall f_L_take_f2d2c3 (MP.aL [MP.eVar 0, MP.eInt 13])) (MP.eInt 6))) (MP.sSeq (MP.sSet 3 (MP.e2 MP.oSub (MP.eCall f_L_take_f2d2c3 (MP.aL [MP.eVar 0, MP.eInt 1999])) (MP.eInt 999))) (MP.sSeq (MP.sSet 4 (MP.e2 MP.oAdd (MP.eInt 1) (MP.eCall f_L_take_f2d2c3 (MP.aL [MP.eVar 0, MP.eInt 99])))) (MP.sSeq (MP.sIf (MP.tB (MP.e2 MP.oEq (MP.eVar 1) (MP.eInt 0))) (MP.sRet (MP.eTup (MP.aL [MP.eInt 0, MP.eInt 1]))) MP.sPass) (MP.sSeq (MP.sIf (MP.tB (MP.e2 MP.oEq (MP.eVar 1) (MP.eInt 1))) (MP.sRet (MP.eCall f_L_frac_99180f (MP.aL [MP.eVar 3, MP.eVar 4]))) MP.sPass) (MP.sSeq (MP.sIf (MP.tB (MP.e2 MP.oEq (MP.eVar 1) (MP.eInt 2))) (MP.sRet (MP.eCall f_L_frac_99180f (MP.aL [MP.eVar 2, MP.e2 MP.oAdd (MP.eInt 1) (MP.e2 MP.oMod (MP.eVar 4) (MP.eInt 4))]))) MP.sPass) (MP.sRet (MP.eTup (MP.aL [MP.eVar 2, MP.eInt 1])))))))))
noncomputable def f_L_number_13ee60 : MP.MFn := MP.fnOf 1 4 b_L_number_13ee60
/-- _law_far_number(_law_state); 0=_law_state 1=_law_way 2=_law_top 3=_law_under -/
noncomputable def b_L_far_number_c0f20a : MP.MS := MP.sSeq (MP.sSet 1 (MP.eCall f_L_take_f2d2c3 (MP.aL [MP.eVar 0, MP.eInt 5]))) (MP.sSeq (MP.sSet 2 (MP.e2 MP.oAdd (MP.eInt 1) (MP.eCall f_L_take_f2d2c3 (MP.aL [MP.eVar 0, MP.e2 MP.oIx (MP.eLst (MP.aL [MP.eInt 12, MP.eInt 12, MP.eInt 1, MP.eInt 1, MP.eInt (10 ^ 29)])) (MP.eVar 1)])))) (MP.sSeq (MP.sSet 3 (MP.e2 MP.oAdd (MP.eInt 1) (MP.eCall f_L_take_f2d2c3 (MP.aL [MP.eVar 0, MP.e2 MP.oIx (MP.eLst (MP.aL [MP.eInt 1, MP.eInt 9, MP.eInt 1, MP.eInt 1, MP.eInt (10 ^ 29)])) (MP.eVar 1)])))) (MP.sRet (MP.eCall f_L_frac_99180f (MP.aL [MP.e2 MP.oMul (MP.eVar 2) (MP.e2 MP.oSub (MP.eInt 1) (MP.e2 MP.oMul (MP.eInt 2) (MP.eCall f_L_take_f2d2c3 (MP.aL [MP.eVar 0, MP.eInt 2])))), MP.eVar 3])))))
noncomputable def f_L_far_number_c0f20a : MP.MFn := MP.fnOf 1 3 b_L_far_number_c0f20a
/-- law(_law_script); 0=_law_script 1=_law_state 2=_law_turn 3=_law_point 4=_law_shares 5=_law_key 6=_law_handed -/
noncomputable def b_law_f275d9 : MP.MS := MP.sSeq (MP.sSet 1 (MP.eCall f_L_fresh_5c16a1 (MP.aL [MP.eVar 0]))) (MP.sSeq (MP.sFor (MP.iRange1 (MP.eInt 4)) (MP.gName 2) (MP.sSeq (MP.sSet 3 MP.eDct0) (MP.sSeq (MP.sSet 4 MP.eDct0) (MP.sSeq (MP.sFor (MP.iSeq (MP.eCall f_L_names_83ad55 (MP.aL [MP.eVar 1, MP.eCall f_L_take_f2d2c3 (MP.aL [MP.eVar 1, MP.eInt 6])]))) (MP.gName 5) (MP.sSeq (MP.sAsg (MP.e2 MP.oIx (MP.eTup (MP.aL [MP.eCall f_L_number_13ee60 (MP.aL [MP.eVar 1]), MP.eCall f_L_far_number_c0f20a (MP.aL [MP.eVar 1])])) (MP.eCall f_L_take_f2d2c3 (MP.aL [MP.eVar 1, MP.eInt 2]))) (MP.gSub (MP.eVar 3) (MP.eVar 5))) (MP.sIf (MP.tB (MP.e2 MP.oNe (MP.e2 MP.oIx (MP.e2 MP.oIx (MP.eVar 3) (MP.eVar 5)) (MP.eInt 0)) (MP.eInt 0))) (MP.sAsg (MP.e2 MP.oIx (MP.eVar 3) (MP.eVar 5)) (MP.gSub (MP.eVar 4) (MP.eVar 5))) MP.sPass))) (MP.sSeq (MP.sSet 6 (MP.eLst (MP.aL [MP.e1 MP.oDict (MP.eVar 3), MP.e1 MP.oDict (MP.eVar 4)]))) (MP.sSeq (MP.sIf (MP.tOr (MP.tB (MP.e2 MP.oNe (MP.eCall f_point_text_bda4de (MP.aL [MP.e2 MP.oIx (MP.eVar 6) (MP.eInt 0)])) (MP.eCall f_L_listed_7e5a9d (MP.aL [MP.eVar 3])))) (MP.tB (MP.e2 MP.oNe (MP.eCall f_shares_text_e02e58 (MP.aL [MP.e2 MP.oIx (MP.eVar 6) (MP.eInt 1)])) (MP.eCall f_L_listed_7e5a9d (MP.aL [MP.eVar 4]))))) (MP.sRet (MP.eC (.bl false))) MP.sPass) (MP.sIf (MP.tOr (MP.tB (MP.e2 MP.oNe (MP.eVar 6) (MP.eLst (MP.aL [MP.eVar 3, MP.eVar 4])))) (MP.tB (MP.e2 MP.oNe (MP.eCall f_point_text_bda4de (MP.aL [MP.e2 MP.oIx (MP.eVar 6) (MP.eInt 0)])) (MP.eCall f_L_listed_7e5a9d (MP.aL [MP.eVar 3]))))) (MP.sRet (MP.eC (.bl false))) MP.sPass))))))) (MP.sRet (MP.eAnd (MP.e2 MP.oEq (MP.eCall f_point_text_bda4de (MP.aL [MP.eDct0])) (MP.eStr "nothing")) (MP.e2 MP.oEq (MP.eCall f_shares_text_e02e58 (MP.aL [MP.eDct0])) (MP.eStr "nothing")))))
noncomputable def f_law_f275d9 : MP.MFn := MP.fnOf 1 6 b_law_f275d9
end MF

namespace LK
open PySem PySem.Spec PyProof.Rows L2 ML
def top (i : Nat) : Stmt := PySem.Challenge.pw_scopestore_k84_points_as_texts.main.body.getD i (.Pass ⟨0, 0, 0, 0⟩)
abbrev st_L_fresh : Stmt := top 5
abbrev st_L_mixed : Stmt := top 6
abbrev st_L_fill : Stmt := top 7
abbrev st_L_take : Stmt := top 8
abbrev st_L_some_name : Stmt := top 11
abbrev st_L_names : Stmt := top 12
abbrev st_fraction_text : Stmt := top 1
abbrev st_point_text : Stmt := top 2
abbrev st_shares_text : Stmt := top 3
abbrev st_L_fraction_text : Stmt := top 15
abbrev st_L_listed : Stmt := top 16
abbrev st_L_shared : Stmt := top 9
abbrev st_L_frac : Stmt := top 10
abbrev st_L_number : Stmt := top 13
abbrev st_L_far_number : Stmt := top 14
abbrev st_law : Stmt := top 17
end LK
namespace HD
open PySem PySem.Spec PyProof.Rows L2 ML LK
def d_L_fresh : He.DefD := ⟨("_law_fresh", none), "_law_fresh", "_law_fresh", defArgs st_L_fresh, defBody st_L_fresh, defScope st_L_fresh, [], []⟩
def d_L_mixed : He.DefD := ⟨("_law_mixed", none), "_law_mixed", "_law_mixed", defArgs st_L_mixed, defBody st_L_mixed, defScope st_L_mixed, [], []⟩
def d_L_fill : He.DefD := ⟨("_law_fill", none), "_law_fill", "_law_fill", defArgs st_L_fill, defBody st_L_fill, defScope st_L_fill, [], []⟩
def d_L_take : He.DefD := ⟨("_law_take", none), "_law_take", "_law_take", defArgs st_L_take, defBody st_L_take, defScope st_L_take, [], []⟩
def d_L_some_name : He.DefD := ⟨("_law_some_name", none), "_law_some_name", "_law_some_name", defArgs st_L_some_name, defBody st_L_some_name, defScope st_L_some_name, [], []⟩
def d_L_names : He.DefD := ⟨("_law_names", none), "_law_names", "_law_names", defArgs st_L_names, defBody st_L_names, defScope st_L_names, [], []⟩
def d_fraction_text : He.DefD := ⟨("fraction_text", none), "fraction_text", "fraction_text", defArgs st_fraction_text, defBody st_fraction_text, defScope st_fraction_text, [], []⟩
def d_point_text : He.DefD := ⟨("point_text", none), "point_text", "point_text", defArgs st_point_text, defBody st_point_text, defScope st_point_text, [], []⟩
def d_shares_text : He.DefD := ⟨("shares_text", none), "shares_text", "shares_text", defArgs st_shares_text, defBody st_shares_text, defScope st_shares_text, [], []⟩
def d_L_fraction_text : He.DefD := ⟨("_law_fraction_text", none), "_law_fraction_text", "_law_fraction_text", defArgs st_L_fraction_text, defBody st_L_fraction_text, defScope st_L_fraction_text, [], []⟩
def d_L_listed : He.DefD := ⟨("_law_listed", none), "_law_listed", "_law_listed", defArgs st_L_listed, defBody st_L_listed, defScope st_L_listed, [], []⟩
def d_L_shared : He.DefD := ⟨("_law_shared", none), "_law_shared", "_law_shared", defArgs st_L_shared, defBody st_L_shared, defScope st_L_shared, [], []⟩
def d_L_frac : He.DefD := ⟨("_law_frac", none), "_law_frac", "_law_frac", defArgs st_L_frac, defBody st_L_frac, defScope st_L_frac, [], []⟩
def d_L_number : He.DefD := ⟨("_law_number", none), "_law_number", "_law_number", defArgs st_L_number, defBody st_L_number, defScope st_L_number, [], []⟩
def d_L_far_number : He.DefD := ⟨("_law_far_number", none), "_law_far_number", "_law_far_number", defArgs st_L_far_number, defBody st_L_far_number, defScope st_L_far_number, [], []⟩
def d_law : He.DefD := ⟨("law", none), "law", "law", defArgs st_law, defBody st_law, defScope st_law, [], []⟩
def fn : List He.DefD := [d_L_fresh, d_L_mixed, d_L_fill, d_L_take, d_L_some_name, d_L_names, d_fraction_text, d_point_text, d_shares_text, d_L_fraction_text, d_L_listed, d_L_shared, d_L_frac, d_L_number, d_L_far_number, d_law]
def fa : List He.Fa := [.glo "_law_fresh", .glo "_law_mixed", .glo "_law_fill", .glo "_law_take", .glo "_law_some_name", .glo "_law_names", .glo "fraction_text", .glo "point_text", .glo "shares_text", .glo "_law_fraction_text", .glo "_law_listed", .glo "_law_shared", .glo "_law_frac", .glo "_law_number", .glo "_law_far_number", .glo "law", .free "abs", .free "dict", .free "enumerate", .free "len", .free "range", .free "sorted", .free "str"]
def tst (K : PySem.W.Frag) : Bool := true
theorem glo_all {K : PySem.W.Frag} {h : Heap} {mg : Str → Option Value} (X : K.In h) (G : h.Ns mainGlobals mg) (c : He.SaysD fa fn K) (x : Str) (hx : He.Fa.glo x ∈ fa) : mg x = some (.ref (He.ga K x)) := by
  obtain ⟨i, hi, e⟩ := List.getElem_of_mem hx
  exact He.glo_ok X G (c.fact i (f := .glo x) (by rw [List.getElem?_eq_getElem hi, e]))
abbrev R : PySem.W.OpenRow := PySem.W.OpenLaw.row PySem.Challenge.rw_scopestore_k84_points_as_texts
abbrev hk : PySem.W.Hook := hookE 4 fa fn tst
def ob (s : PySem.W.SharedT) : AlE := obsE 4 fa fn tst (HandSHeadRun.getT s)
theorem ob_eq (s : PySem.W.SharedT) : ob s = hk.obs s.abs := obsE_eq _ _ _ _ (HandSHeadRun.getT_eq s)
def names : List PySem.Str := (["fraction_text", "point_text", "shares_text", "_law_fresh", "_law_mixed", "_law_fill", "_law_take", "_law_shared", "_law_frac", "_law_some_name", "_law_names", "_law_number", "_law_far_number", "_law_fraction_text", "_law_listed"] : List PySem.Str)
theorem run (w : World) : HandSHeadRun.RunEq R (PySem.W.view R.prog [17]) hk ob 20000 names w := by
  intro os
  kernel_rfl
end HD
namespace Sp
open PySem MP
/-! ### what stays of the memory -/
def Ext (m m' : Mem) : Prop := ∀ (k : Nat) (o : MO), m[k]? = some o → m'[k]? = some o
theorem Ext.refl (m : Mem) : Ext m m := fun _ _ h => h
theorem Ext.trans {m m1 m2 : Mem} (a : Ext m m1) (b : Ext m1 m2) : Ext m m2 := fun k o h => b k o (a k o h)
theorem Ext.app (m l : Mem) : Ext m (m ++ l) := fun k o h => by rw [List.getElem?_append_left (List.getElem?_eq_some_iff.mp h).1]; exact h
theorem Ext.len {m m' : Mem} (h : Ext m m') : m.length ≤ m'.length := by
  rcases Nat.eq_zero_or_pos m.length with h0 | h0
  · omega
  · have := (List.getElem?_eq_some_iff.mp (h (m.length - 1) m[m.length - 1] (List.getElem?_eq_getElem (by omega)))).1
    omega
/-- all but n -/
def Keep (n : Nat) (m m' : Mem) : Prop := ∀ (k : Nat) (o : MO), k ≠ n → m[k]? = some o → m'[k]? = some o
theorem Keep.refl (n : Nat) (m : Mem) : Keep n m m := fun _ _ _ h => h
theorem Keep.trans {n : Nat} {m m1 m2 : Mem} (a : Keep n m m1) (b : Keep n m1 m2) : Keep n m m2 := fun k o e h => b k o e (a k o e h)
theorem Ext.keep {n : Nat} {m m' : Mem} (h : Ext m m') : Keep n m m' := fun k o _ e => h k o e
theorem Keep.set (n : Nat) (m : Mem) (o : MO) : Keep n m (m.set n o) := fun k u e h => by rw [List.getElem?_set_ne (Ne.symm e)]; exact h
theorem lt_of {m : Mem} {k : Nat} {o : MO} (h : m[k]? = some o) : k < m.length := (List.getElem?_eq_some_iff.mp h).1
theorem new_at (m : Mem) (o : MO) : (m ++ [o])[m.length]? = some o := by simp
theorem app_at {m : Mem} {k : Nat} {o : MO} (l : Mem) (h : m[k]? = some o) : (m ++ l)[k]? = some o := Ext.app m l k o h
theorem set_at {m : Mem} {k : Nat} {o : MO} (u : MO) (h : m[k]? = some o) : (m.set k u)[k]? = some u := List.getElem?_set_self (lt_of h)
theorem set_ne {m : Mem} {k j : Nat} {o : MO} (u : MO) (e : j ≠ k) (h : m[k]? = some o) : (m.set j u)[k]? = some o := by rw [List.getElem?_set_ne e]; exact h
/-- an own new object is written -/
theorem Ext.setNew {m m' : Mem} {k : Nat} (u : MO) (h : Ext m m') (hk : m.length ≤ k) : Ext m (m'.set k u) := fun j o e => by
  have := lt_of e
  rw [List.getElem?_set_ne (by omega)]; exact h j o e
theorem Keep.setNew {n : Nat} {m m' : Mem} {k : Nat} (u : MO) (h : Keep n m m') (hk : m.length ≤ k) : Keep n m (m'.set k u) := fun j o hj e => by
  have := lt_of e
  rw [List.getElem?_set_ne (by omega)]; exact h j o hj e
/-! ### loops over dicts -/
section
variable {fr : Fr} {m m1 : Mem} {P : SR.Post} {g : MG} {b : MS} {it : MI} {items : List MV} {a : Nat} {lk : Bool} {kvs : List (Key × MV)}
end
/-! ### what is walked -/
section
variable {fr : Fr} {m m1 : Mem} {e : ME} {a : Nat} {lk : Bool} {kvs : List (Key × MV)} {xs : List MV}
theorem it_lst (h : e fr m = .ok (.ref a) m1) (hm : m1[a]? = some (.lst xs)) : iSeq e fr m = .ok ⟨xs, fun m => m[a]? = some (.lst xs), none⟩ m1 := by
  unfold iSeq; rw [h]; simp only [Res.bind_ok, hm]
theorem it_range {j : Int} (h : e fr m = .ok (.int j) m1) (h1 : j < 1000000 ∧ -1000000 < j) : iRange1 e fr m = .ok ⟨rangeL 0 j.toNat, fun _ => True, none⟩ m1 := by
  unfold iRange1; rw [h]; simp only [Res.bind_ok, if_pos h1]
end
theorem cut_take {α : Type} (xs : List α) {i : Int} (h : 0 ≤ i) : cutL xs none (some i) = xs.take i.toNat := by
  unfold cutL clip
  simp only [if_pos h, List.drop_zero]
  by_cases hi : i.toNat ≤ xs.length
  · rw [Nat.min_eq_left hi]
  · rw [Nat.min_eq_right (by omega), List.take_of_length_le (Nat.le_refl _), List.take_of_length_le (by omega)]
/-! ### dicts, lists in the memory -/
section
variable {m : Mem} {a : Nat} {lk : Bool} {kvs : List (Key × MV)} {xs : List MV} {y : MV} {k : Key} {Q : MV → Mem → Prop} {E : Str → Mem → Prop}
theorem o_ixD (h : m[a]? = some (.dct lk kvs)) : oIx (.ref a) y m = match (keyOf y).bind (getK kvs) with
    | some v => .ok v m
    | none => .bad := by
  show (match m[a]? with | some (.lst xs) => _ | some (.rol xs) => _ | some (.dct _ kvs) => _ | _ => _) = _
  rw [h] <;> rfl
theorem put_dct {v : MV} (h : m[a]? = some (.dct false kvs)) (hk : keyOf y = some k) (hl : kvs.length < LINE) : putIx (.ref a) y v m = some (m.set a (.dct false (setK kvs k v))) := by
  show (match m[a]? with | some (.lst xs) => _ | some (.dct false kvs) => _ | _ => _) = _
  rw [h]
  simp only [hk, if_pos hl]
theorem o_lenD (h : m[a]? = some (.dct lk kvs)) : oLen (.ref a) m = .ok (.int kvs.length) m := by
  show (match m[a]? with | some (.lst xs) => _ | some (.rol xs) => _ | some (.dct _ kvs) => _ | _ => _) = _
  rw [h]
theorem o_dictD (h : m[a]? = some (.dct lk kvs)) : oDict (.ref a) m = .ok (.ref m.length) (m ++ [.dct false kvs]) := by
  show (match m[a]? with | some (.lst xs) => _ | some (.dct _ kvs) => _ | _ => _) = _
  rw [h] <;> rfl
end
section
variable {fr : Fr} {m : Mem} {Q : MV → Mem → Prop} {QO : Option Int → Mem → Prop} {E : Str → Mem → Prop}
theorem w_partS {e : ME} : (part (some e) fr m).wp QO E = (e fr m).wp (fun v m1 => match v with
    | .int i => QO (some i) m1
    | _ => False) E := by
  unfold part
  rw [Res.wp_bind]
  congr 1
  funext v m1
  cases v <;> rfl
theorem w_cut {a : ME} {lo hi : Option ME} : (eCut a lo hi fr m).wp Q E = (a fr m).wp (fun x m1 => (part lo fr m1).wp (fun l m2 => (part hi fr m2).wp (fun h m3 => (oCut x l h m3).wp Q E) E) E) E := by
  unfold eCut
  rw [Res.wp_bind]
  congr 1
  funext x m1
  rw [Res.wp_bind]
  congr 1
  funext x m1
  rw [Res.wp_bind]
theorem o_cutL {a : Nat} {xs : List MV} {lo hi : Option Int} (h : m[a]? = some (.lst xs)) : oCut (.ref a) lo hi m = .ok (.ref m.length) (m ++ [.lst (cutL xs lo hi)]) := by
  show (match m[a]? with | some (.lst xs) => _ | some (.rol xs) => _ | _ => _) = _
  rw [h] <;> rfl
end
end Sp

namespace Sp
open PySem MP
/-! ### one step at a time: what is run, from what must hold of it -/
section
variable {α : Type} {fr : Fr} {m m1 : Mem} {Q : MV → Mem → Prop} {QL : List MV → Mem → Prop} {QB : Bool → Mem → Prop} {QO : Option Int → Mem → Prop} {E : Str → Mem → Prop} {P : SR.Post}
theorem s_ok {a : α} {Q : α → Mem → Prop} (h : Q a m) : (Res.ok a m).wp Q E := h
theorem s_of {r : Res α} {a : α} {Q : α → Mem → Prop} (e : r = .ok a m1) (h : Q a m1) : r.wp Q E := by rw [e]; exact h
theorem s_var {i : Nat} {v : MV} (e : fr[i]? = some (some v)) (h : Q v m) : (eVar i fr m).wp Q E := by unfold eVar; rw [e]; exact h
theorem s_int {i : Int} (h : Q (.int i) m) : (eInt i fr m).wp Q E := h
theorem s_str {i : Str} (h : Q (.str i) m) : (eStr i fr m).wp Q E := h
theorem s_c {v : MV} (h : Q v m) : (eC v fr m).wp Q E := h
theorem s_e1 {f : MV → Mem → Res MV} {a : ME} (h : (a fr m).wp (fun x m1 => (f x m1).wp Q E) E) : (e1 f a fr m).wp Q E := by rw [w_e1]; exact h
theorem s_e2 {f : MV → MV → Mem → Res MV} {a b : ME} (h : (a fr m).wp (fun x m1 => (b fr m1).wp (fun y m2 => (f x y m2).wp Q E) E) E) : (e2 f a b fr m).wp Q E := by rw [w_e2]; exact h
theorem s_aL0 (h : QL [] m) : (aL [] fr m).wp QL E := h
theorem s_aL1 {a : ME} {r : List ME} (h : (a fr m).wp (fun x m1 => (aL r fr m1).wp (fun xs m2 => QL (x :: xs) m2) E) E) : (aL (a :: r) fr m).wp QL E := by rw [w_aL1]; exact h
theorem s_call {f : MFn} {a : MA} (h : (a fr m).wp (fun xs m1 => (f xs m1).wp Q E) E) : (eCall f a fr m).wp Q E := by rw [w_call]; exact h
theorem s_tup {a : MA} (h : (a fr m).wp (fun xs m1 => xs.length ≤ LINE ∧ Q (.tup xs) m1) E) : (eTup a fr m).wp Q E := by rw [w_tup]; exact h
theorem s_lst {a : MA} (h : (a fr m).wp (fun xs m1 => xs.length ≤ LINE ∧ Q (.ref m1.length) (m1 ++ [.lst xs])) E) : (eLst a fr m).wp Q E := by rw [w_lst]; exact h
theorem s_line {n : Nat} {A : Prop} (e : Nat.ble n LINE = true) (h : A) : n ≤ LINE ∧ A := ⟨Nat.le_of_ble_eq_true e, h⟩
theorem s_dct0 (h : Q (.ref m.length) (m ++ [.dct false []])) : (eDct0 fr m).wp Q E := h
theorem s_tE {a : ME} (h : (a fr m).wp (fun x m1 => (truth x m1).wp QB E) E) : (tE a fr m).wp QB E := by rw [w_tE]; exact h
theorem s_tB {a : ME} (h : (a fr m).wp (fun x m1 => (isBl x m1).wp QB E) E) : (tB a fr m).wp QB E := by rw [w_tB]; exact h
theorem s_tAnd {a b : MT} (h : (a fr m).wp (fun x m1 => if x = true then (b fr m1).wp QB E else QB false m1) E) : (tAnd a b fr m).wp QB E := by rw [w_tAnd]; exact h
theorem s_tOr {a b : MT} (h : (a fr m).wp (fun x m1 => if x = true then QB true m1 else (b fr m1).wp QB E) E) : (tOr a b fr m).wp QB E := by rw [w_tOr]; exact h
theorem s_tNot {a : MT} (h : (a fr m).wp (fun x m1 => QB (!x) m1) E) : (tNot a fr m).wp QB E := by rw [w_tNot]; exact h
theorem s_yes (h : QB true m) : (tYes fr m).wp QB E := h
theorem s_eNot {a : MT} (h : (a fr m).wp (fun x m1 => Q (.bl (!x)) m1) E) : (eNot a fr m).wp Q E := by rw [w_eNot]; exact h
theorem s_eIf {t : MT} {a b : ME} (h : (t fr m).wp (fun x m1 => if x = true then (a fr m1).wp Q E else (b fr m1).wp Q E) E) : (eIf t a b fr m).wp Q E := by rw [w_eIf]; exact h
theorem s_eAnd {a b : ME} (h : (a fr m).wp (fun x m1 => ∃ p, x = .bl p ∧ (if p = true then (b fr m1).wp Q E else Q (.bl false) m1)) E) : (eAnd a b fr m).wp Q E := by
  rw [w_eAnd]
  refine Res.wp_mono h (fun x m1 hx => ?_) fun _ _ h => h
  obtain ⟨p, rfl, hp⟩ := hx
  cases p <;> exact hp
theorem s_eOr {a b : ME} (h : (a fr m).wp (fun x m1 => ∃ p, x = .bl p ∧ (if p = true then Q (.bl true) m1 else (b fr m1).wp Q E)) E) : (eOr a b fr m).wp Q E := by
  rw [w_eOr]
  refine Res.wp_mono h (fun x m1 hx => ?_) fun _ _ h => h
  obtain ⟨p, rfl, hp⟩ := hx
  cases p <;> exact hp
theorem s_exbl {p : Bool} {R : Bool → Prop} (h : R p) : ∃ q, MV.bl p = .bl q ∧ R q := ⟨p, rfl, h⟩
theorem s_eOrT {a b : ME} (h : (a fr m).wp (fun x m1 => (truth x m1).wp (fun k m2 => if k = true then Q x m2 else (b fr m2).wp Q E) E) E) : (eOrT a b fr m).wp Q E := by rw [w_eOrT]; exact h
theorem s_eChain {f g : MV → MV → Mem → Res MV} {a b c : ME} (h : (a fr m).wp (fun x m1 => (b fr m1).wp (fun y m2 => (f x y m2).wp (fun r m3 => ∃ p, r = .bl p ∧ (if p = true then (c fr m3).wp (fun z m4 => (g y z m4).wp Q E) E else Q (.bl false) m3)) E) E) E) : (eChain f g a b c fr m).wp Q E := by
  unfold eChain
  rw [Res.wp_bind]
  refine Res.wp_mono h (fun x m1 h => ?_) fun _ _ h => h
  rw [Res.wp_bind]
  refine Res.wp_mono h (fun y m2 h => ?_) fun _ _ h => h
  rw [Res.wp_bind]
  refine Res.wp_mono h (fun r m3 h => ?_) fun _ _ h => h
  obtain ⟨p, rfl, hp⟩ := h
  cases p with
  | false => exact hp
  | true => show ((c fr m3).bind fun z m4 => g y z m4).wp Q E; rw [Res.wp_bind]; exact hp
theorem s_cut {a : ME} {lo hi : Option ME} (h : (a fr m).wp (fun x m1 => (part lo fr m1).wp (fun l m2 => (part hi fr m2).wp (fun h m3 => (oCut x l h m3).wp Q E) E) E) E) : (eCut a lo hi fr m).wp Q E := by rw [w_cut]; exact h
theorem s_partN (h : QO none m) : (part none fr m).wp QO E := h
theorem s_partS {e : ME} (h : (e fr m).wp (fun v m1 => ∃ i, v = .int i ∧ QO (some i) m1) E) : (part (some e) fr m).wp QO E := by
  rw [w_partS]
  refine Res.wp_mono h (fun x m1 h => ?_) fun _ _ h => h
  obtain ⟨i, rfl, hi⟩ := h
  exact hi
theorem s_exint {i : Int} {R : Int → Prop} (h : R i) : ∃ j, MV.int i = .int j ∧ R j := ⟨i, rfl, h⟩
theorem s_eDct {ps : List (ME × ME)} (h : (pairs ps fr (m ++ [.dct false []])).wp (fun kvs m1 => m1[m.length]? = some (.dct false []) ∧ Q (.ref m.length) (m1.set m.length (.dct false (mergeD [] kvs)))) E) : (eDct ps fr m).wp Q E := by
  rw [w_eDct]
  refine Res.wp_mono h (fun x m1 h => ?_) fun _ _ h => h
  rw [h.1]; exact h.2
theorem s_pairs0 {Q : List (Key × MV) → Mem → Prop} (h : Q [] m) : (pairs [] fr m).wp Q E := h
theorem s_pairs1 {k v : ME} {r : List (ME × ME)} {Q : List (Key × MV) → Mem → Prop} (h : (k fr m).wp (fun x m1 => (v fr m1).wp (fun y m2 => (pairs r fr m2).wp (fun kvs m3 => ∃ c, keyOf x = some c ∧ Q ((c, y) :: kvs) m3) E) E) E) : (pairs ((k, v) :: r) fr m).wp Q E := by
  rw [w_pairs1]
  refine Res.wp_mono h (fun x m1 h => ?_) fun _ _ h => h
  refine Res.wp_mono h (fun y m2 h => ?_) fun _ _ h => h
  refine Res.wp_mono h (fun z m3 h => ?_) fun _ _ h => h
  obtain ⟨c, hc, h⟩ := h
  rw [hc]; exact h
theorem s_append {o v : ME} (h : (o fr m).wp (fun x m1 => ∃ n xs, x = .ref n ∧ m1[n]? = some (.lst xs) ∧ (v fr m1).wp (fun y m2 => ∃ ys, m2[n]? = some (.lst ys) ∧ ys.length < LINE ∧ Q .non (m2.set n (.lst (ys ++ [y])))) E) E) : (eAppend o v fr m).wp Q E := by
  unfold eAppend
  rw [Res.wp_bind]
  refine Res.wp_mono h (fun x m1 h => ?_) fun _ _ h => h
  obtain ⟨n, xs, rfl, h1, h⟩ := h
  simp only [h1]
  rw [Res.wp_bind]
  refine Res.wp_mono h (fun y m2 h => ?_) fun _ _ h => h
  obtain ⟨ys, h1, h2, h3⟩ := h
  simp only [h1, if_pos h2]
  exact h3
theorem s_get2 {o k d : ME} (h : (o fr m).wp (fun x m1 => ∃ n l kvs, x = .ref n ∧ m1[n]? = some (.dct l kvs) ∧ (k fr m1).wp (fun y m2 => (d fr m2).wp (fun z m3 => ∃ l kvs c, m3[n]? = some (.dct l kvs) ∧ keyOf y = some c ∧ Q ((getK kvs c).getD z) m3) E) E) E) : (eGet2 o k d fr m).wp Q E := by
  unfold eGet2
  rw [Res.wp_bind]
  refine Res.wp_mono h (fun x m1 h => ?_) fun _ _ h => h
  obtain ⟨n, l, kvs, rfl, h1, h⟩ := h
  simp only [h1]
  rw [Res.wp_bind]
  refine Res.wp_mono h (fun y m2 h => ?_) fun _ _ h => h
  rw [Res.wp_bind]
  refine Res.wp_mono h (fun z m3 h => ?_) fun _ _ h => h
  obtain ⟨l, kvs, c, h1, h2, h3⟩ := h
  simp only [h1, h2]
  exact h3
theorem s_join {s e : ME} (h : (s fr m).wp (fun x m1 => ∃ z, x = .str z ∧ (e fr m1).wp (fun y m2 => (oJoin x y m2).wp Q E) E) E) : (eJoin s e fr m).wp Q E := by
  unfold eJoin
  rw [Res.wp_bind]
  refine Res.wp_mono h (fun x m1 h => ?_) fun _ _ h => h
  obtain ⟨z, rfl, h⟩ := h
  simp only
  rw [Res.wp_bind]
  exact h
theorem s_exstr {s : Str} {R : Prop} (h : R) : ∃ z, MV.str s = .str z ∧ R := ⟨s, rfl, h⟩
/-! statements -/
theorem s_nx {f : Fr → Mem → Prop} {r : MV → Mem → Prop} {b c : Fr → Mem → Prop} {x : Str → Fr → Mem → Prop} (h : f fr m) : (SR.Post.mk f r b c x).nx fr m := h
theorem s_rt {f : Fr → Mem → Prop} {r : MV → Mem → Prop} {b c : Fr → Mem → Prop} {x : Str → Fr → Mem → Prop} {v : MV} (h : r v m) : (SR.Post.mk f r b c x).rt v m := h
theorem s_bk {f : Fr → Mem → Prop} {r : MV → Mem → Prop} {b c : Fr → Mem → Prop} {x : Str → Fr → Mem → Prop} (h : b fr m) : (SR.Post.mk f r b c x).bk fr m := h
theorem s_ct {f : Fr → Mem → Prop} {r : MV → Mem → Prop} {b c : Fr → Mem → Prop} {x : Str → Fr → Mem → Prop} (h : c fr m) : (SR.Post.mk f r b c x).ct fr m := h
theorem s_ex {f : Fr → Mem → Prop} {r : MV → Mem → Prop} {b c : Fr → Mem → Prop} {x : Str → Fr → Mem → Prop} {k : Str} (h : x k fr m) : (SR.Post.mk f r b c x).ex k fr m := h
theorem s_pass (h : P.nx fr m) : (sPass fr m).wp P := h
theorem s_break (h : P.bk fr m) : (sBreak fr m).wp P := h
theorem s_cont (h : P.ct fr m) : (sCont fr m).wp P := h
theorem s_retN (h : P.rt .non m) : (sRetN fr m).wp P := h
theorem s_seq {a b : MS} (h : (a fr m).wp { P with nx := fun fr m => (b fr m).wp P }) : (sSeq a b fr m).wp P := by rw [w_seq]; exact h
theorem s_set {i : Nat} {e : ME} (h : (e fr m).wp (fun v m1 => P.nx (fr.set i (some v)) m1) (fun c m => P.ex c fr m)) : (sSet i e fr m).wp P := by rw [w_set]; exact h
theorem s_par {i j : Nat} {a b : ME} (h : (a fr m).wp (fun x m1 => (b fr m1).wp (fun y m2 => P.nx ((fr.set i (some x)).set j (some y)) m2) (fun c m => P.ex c fr m)) (fun c m => P.ex c fr m)) : (sPar i j a b fr m).wp P := by rw [w_par]; exact h
theorem s_par3 {i j k : Nat} {a b c : ME} (h : (a fr m).wp (fun x m1 => (b fr m1).wp (fun y m2 => (c fr m2).wp (fun z m3 => P.nx (((fr.set i (some x)).set j (some y)).set k (some z)) m3) (fun c m => P.ex c fr m)) (fun c m => P.ex c fr m)) (fun c m => P.ex c fr m)) : (sPar3 i j k a b c fr m).wp P := by
  unfold sPar3
  rw [w_ofRes]
  refine Res.wp_mono h (fun x m1 h => ?_) fun _ _ h => h
  rw [w_ofRes]
  refine Res.wp_mono h (fun x m1 h => ?_) fun _ _ h => h
  rw [w_ofRes]
  exact h
theorem s_asg {e : ME} {g : MG} (h : (e fr m).wp (fun v m1 => (g v fr m1).wp P) (fun c m => P.ex c fr m)) : (sAsg e g fr m).wp P := by rw [w_asg]; exact h
theorem s_gName {i : Nat} {v : MV} (h : P.nx (fr.set i (some v)) m) : (gName i v fr m).wp P := h
theorem s_gSub {o i : ME} {v : MV} (h : (o fr m).wp (fun x m1 => (i fr m1).wp (fun y m2 => ∃ m3, putIx x y v m2 = some m3 ∧ P.nx fr m3) (fun c m => P.ex c fr m)) (fun c m => P.ex c fr m)) : (gSub o i v fr m).wp P := by
  rw [w_gSub]
  refine Res.wp_mono h (fun x m1 h => ?_) fun _ _ h => h
  refine Res.wp_mono h (fun y m2 h => ?_) fun _ _ h => h
  obtain ⟨m3, e, h⟩ := h
  rw [e]; exact h
theorem s_gTup {gs : List MG} {vs : List MV} (e : vs.length = gs.length) (h : (gAll gs vs fr m).wp P) : (gTup gs (.tup vs) fr m).wp P := by rw [w_gTup, if_pos e]; exact h
theorem s_gAll0 (h : P.nx fr m) : (gAll [] [] fr m).wp P := h
theorem s_gAll1 {g : MG} {gs : List MG} {v : MV} {vs : List MV} (h : (g v fr m).wp { P with nx := fun fr m => (gAll gs vs fr m).wp P }) : (gAll (g :: gs) (v :: vs) fr m).wp P := by rw [w_gAll1]; exact h
theorem s_ret {a : ME} (h : (a fr m).wp P.rt (fun c m => P.ex c fr m)) : (sRet a fr m).wp P := by rw [w_ret]; exact h
theorem s_expr {a : ME} (h : (a fr m).wp (fun _ m1 => P.nx fr m1) (fun c m => P.ex c fr m)) : (sExpr a fr m).wp P := by rw [w_expr]; exact h
theorem s_if {t : MT} {a b : MS} (h : (t fr m).wp (fun x m1 => if x = true then (a fr m1).wp P else (b fr m1).wp P) (fun c m => P.ex c fr m)) : (sIf t a b fr m).wp P := by rw [w_if]; exact h
theorem s_raise {c : Str} (h : P.ex c fr m) : (sRaise c fr m).wp P := h
theorem s_fn {np nl : Nat} {b : MS} {args : List MV} (e : args.length = np) (h : (b (args.map some ++ List.replicate nl none) m).wp { nx := fun _ m' => Q .non m', rt := Q, ex := fun c _ m' => E c m' }) : (fnOf np nl b args m).wp Q E := by rw [w_fn e]; exact h
/-! ifs -/
theorem s_T {A B : Prop} (h : A) : if true = true then A else B := h
theorem s_F {A B : Prop} (h : B) : if false = true then A else B := h
theorem s_nT {A B : Prop} (h : B) : if (!true) = true then A else B := h
theorem s_nF {A B : Prop} (h : A) : if (!false) = true then A else B := h
theorem s_ite {p A B : Prop} [Decidable p] (h1 : p → A) (h2 : ¬ p → B) : if decide p = true then A else B := by
  by_cases h : p
  · simp only [h, decide_true, if_true]; exact h1 h
  · simp only [h, decide_false, Bool.false_eq_true, if_false]; exact h2 h
theorem s_nite {p A B : Prop} [Decidable p] (h1 : ¬ p → A) (h2 : p → B) : if (!decide p) = true then A else B := by
  by_cases h : p
  · simp only [h, decide_true, Bool.not_true, Bool.false_eq_true, if_false]; exact h2 h
  · simp only [h, decide_false, Bool.not_false, if_true]; exact h1 h
theorem s_yesI {p A B : Prop} [Decidable p] (h : p) (h1 : A) : if decide p = true then A else B := by simp only [h, decide_true, if_true]; exact h1
theorem s_noI {p A B : Prop} [Decidable p] (h : ¬ p) (h1 : B) : if decide p = true then A else B := by simp only [h, decide_false, Bool.false_eq_true, if_false]; exact h1
theorem s_nyesI {p A B : Prop} [Decidable p] (h : p) (h1 : B) : if (!decide p) = true then A else B := by simp only [h, decide_true, Bool.not_true, Bool.false_eq_true, if_false]; exact h1
theorem s_nnoI {p A B : Prop} [Decidable p] (h : ¬ p) (h1 : A) : if (!decide p) = true then A else B := by simp only [h, decide_false, Bool.not_false, if_true]; exact h1
/-! operators -/
theorem s_add {i j : Int} (h : Q (.int (i + j)) m) : (oAdd (.int i) (.int j) m).wp Q E := h
theorem s_sub {i j : Int} (h : Q (.int (i - j)) m) : (oSub (.int i) (.int j) m).wp Q E := h
theorem s_mul {i j : Int} (e : mulOk i j) (h : Q (.int (i * j)) m) : (oMul (.int i) (.int j) m).wp Q E := by rw [o_mul]; exact ⟨e, h⟩
theorem s_div {i j : Int} (e : j ≠ 0 ∧ j.natAbs < DIVB) (h : Q (.int (i.fdiv j)) m) : (oDiv (.int i) (.int j) m).wp Q E := by rw [o_div]; exact ⟨e, h⟩
theorem s_mod {i j : Int} (e : j ≠ 0) (h : Q (.int (i.fmod j)) m) : (oMod (.int i) (.int j) m).wp Q E := by rw [o_mod]; exact ⟨e, h⟩
theorem s_neg {i : Int} (h : Q (.int (-i)) m) : (oNeg (.int i) m).wp Q E := h
theorem s_abs {i : Int} (h : Q (.int (if i < 0 then -i else i)) m) : (oAbs (.int i) m).wp Q E := h
theorem s_lt {i j : Int} (h : Q (.bl (decide (i < j))) m) : (oLt (.int i) (.int j) m).wp Q E := h
theorem s_le {i j : Int} (h : Q (.bl (decide (i ≤ j))) m) : (oLe (.int i) (.int j) m).wp Q E := h
theorem s_gt {i j : Int} (h : Q (.bl (decide (j < i))) m) : (oGt (.int i) (.int j) m).wp Q E := h
theorem s_ge {i j : Int} (h : Q (.bl (decide (j ≤ i))) m) : (oGe (.int i) (.int j) m).wp Q E := h
theorem s_eqi {i j : Int} (h : Q (.bl (decide (i = j))) m) : (oEq (.int i) (.int j) m).wp Q E := h
theorem s_nei {i j : Int} (h : Q (.bl (!decide (i = j))) m) : (oNe (.int i) (.int j) m).wp Q E := h
theorem s_eqs {i j : Str} (h : Q (.bl (decide (i = j))) m) : (oEq (.str i) (.str j) m).wp Q E := h
theorem s_nes {i j : Str} (h : Q (.bl (!decide (i = j))) m) : (oNe (.str i) (.str j) m).wp Q E := h
theorem s_bl {b : Bool} (h : QB b m) : (isBl (.bl b) m).wp QB E := h
theorem s_trb {b : Bool} (h : QB b m) : (truth (.bl b) m).wp QB E := h
theorem s_ixT {xs : List MV} {i : Int} {v : MV} (e : atI xs i = some v) (h : Q v m) : (oIx (.tup xs) (.int i) m).wp Q E := by
  show (match atI xs i with | some v => _ | none => _ : Res MV).wp Q E
  rw [e]; exact h
theorem s_ixL {n : Nat} {xs : List MV} {i : Int} {v : MV} (hm : m[n]? = some (.lst xs)) (e : atI xs i = some v) (h : Q v m) : (oIx (.ref n) (.int i) m).wp Q E := by
  rw [o_ixL hm, e]; exact h
theorem s_ixD {n : Nat} {l : Bool} {kvs : List (Key × MV)} {y v : MV} {k : Key} (hm : m[n]? = some (.dct l kvs)) (e : keyOf y = some k) (e2 : getK kvs k = some v) (h : Q v m) : (oIx (.ref n) y m).wp Q E := by
  rw [o_ixD hm, e]; simp only [Option.bind_some, e2]; exact h
theorem s_lenT {xs : List MV} (h : Q (.int xs.length) m) : (oLen (.tup xs) m).wp Q E := h
theorem s_lenL {n : Nat} {xs : List MV} (hm : m[n]? = some (.lst xs)) (h : Q (.int xs.length) m) : (oLen (.ref n) m).wp Q E := by rw [o_lenL hm]; exact h
theorem s_lenD {n : Nat} {l : Bool} {kvs : List (Key × MV)} (hm : m[n]? = some (.dct l kvs)) (h : Q (.int kvs.length) m) : (oLen (.ref n) m).wp Q E := by rw [o_lenD hm]; exact h
theorem s_trL {n : Nat} {xs : List MV} (hm : m[n]? = some (.lst xs)) (h : QB (!xs.isEmpty) m) : (truth (.ref n) m).wp QB E := by unfold truth; simp only [hm]; exact h
theorem s_intB {b : Bool} (h : Q (.int (if b then 1 else 0)) m) : (oIntB (.bl b) m).wp Q E := h
theorem s_cutL {a : Nat} {xs : List MV} {lo hi : Option Int} (hm : m[a]? = some (.lst xs)) (h : Q (.ref m.length) (m ++ [.lst (cutL xs lo hi)])) : (oCut (.ref a) lo hi m).wp Q E := by rw [o_cutL hm]; exact h
theorem s_cutT {xs : List MV} {lo hi : Option Int} (h : Q (.tup (cutL xs lo hi)) m) : (oCut (.tup xs) lo hi m).wp Q E := h
theorem s_max {i j : Int} (h : Q (.int (if j > i then j else i)) m) : (oMax (.int i) (.int j) m).wp Q E := h
theorem s_min {i j : Int} (h : Q (.int (if j < i then j else i)) m) : (oMin (.int i) (.int j) m).wp Q E := h
theorem s_isNon (h : Q (.bl true) m) : (oIsN .non m).wp Q E := h
theorem s_notNon (h : Q (.bl false) m) : (oNotN .non m).wp Q E := h
/-! loops -/
variable {keep : Mem → Prop} {g : MG} {b : MS} {it : MI} {items : List MV}
theorem s_forR {e : ME} (h : (e fr m).wp (fun x m1 => ∃ j : Int, x = .int j ∧ (j < 1000000 ∧ -1000000 < j) ∧ (forL (fun _ => True) g b (rangeL 0 j.toNat) fr m1).wp P) (fun c m => P.ex c fr m)) : (sFor (iRange1 e) g b fr m).wp P := by
  rw [w_forW]
  unfold iRange1
  rw [Res.wp_bind]
  refine Res.wp_mono h (fun x m1 h => ?_) fun _ _ h => h
  obtain ⟨j, rfl, h1, h2⟩ := h
  simp only [if_pos h1]
  exact h2
/-- over a new list, or any list that is made by the way -/
theorem s_forE {e : ME} (h : (e fr m).wp (fun x m1 => (∃ xs, x = .tup xs ∧ (forL (fun _ => True) g b xs fr m1).wp P) ∨ ∃ n xs, x = .ref n ∧ m1[n]? = some (.lst xs) ∧ (forL (fun m => m[n]? = some (.lst xs)) g b xs fr m1).wp P) (fun c m => P.ex c fr m)) : (sFor (iSeq e) g b fr m).wp P := by
  rw [w_forW]
  unfold iSeq
  rw [Res.wp_bind]
  refine Res.wp_mono h (fun x m1 h => ?_) fun _ _ h => h
  rcases h with ⟨xs, rfl, h⟩ | ⟨n, xs, rfl, h1, h⟩
  · exact h
  · simp only [h1]; exact h
theorem s_mid {r : SR} (R : Fr → Mem → Prop) (h1 : r.wp { P with nx := R }) (h2 : ∀ fr m, R fr m → P.nx fr m) : r.wp P := SR.wp_mono h1 h2 (fun _ _ h => h) (fun _ _ h => h) (fun _ _ h => h) (fun _ _ _ h => h)
end
end Sp

namespace Sp
open PySem MP
/-! ### plain maps from texts -/
section
variable {β : Type}
def lkA (ps : List (Str × β)) (k : Str) : Option β := (ps.find? fun p => decide (p.1 = k)).map (·.2)
def setA (ps : List (Str × β)) (k : Str) (v : β) : List (Str × β) := if (ps.any fun p => decide (p.1 = k)) then ps.map fun p => if p.1 = k then (p.1, v) else p else ps ++ [(k, v)]
def delA (ps : List (Str × β)) (k : Str) : List (Str × β) := ps.filter fun p => decide (p.1 ≠ k)
def toK (f : β → MV) (ps : List (Str × β)) : List (Key × MV) := ps.map fun p => (Sum.inr p.1, f p.2)
def nd (ps : List (Str × β)) : Prop := (ps.map (·.1)).Nodup
theorem toK_len (f : β → MV) (ps : List (Str × β)) : (toK f ps).length = ps.length := List.length_map ..
theorem lkA_nil (k : Str) : lkA ([] : List (Str × β)) k = none := rfl
theorem lkA_cons (p : Str × β) (ps : List (Str × β)) (k : Str) : lkA (p :: ps) k = if p.1 = k then some p.2 else lkA ps k := by
  unfold lkA
  rw [List.find?_cons]
  by_cases h : p.1 = k <;> simp [h]
theorem getK_cons (p : Key × MV) (ps : List (Key × MV)) (k : Key) : getK (p :: ps) k = if p.1 = k then some p.2 else getK ps k := by
  unfold getK
  rw [List.find?_cons]
  by_cases h : p.1 = k <;> simp [h]
theorem getK_toK (f : β → MV) (ps : List (Str × β)) (k : Str) : getK (toK f ps) (.inr k) = (lkA ps k).map f := by
  induction ps with
  | nil => rfl
  | cons p ps ih =>
    rw [lkA_cons]
    show getK ((Sum.inr p.1, f p.2) :: toK f ps) (.inr k) = _
    rw [getK_cons, ih]
    by_cases h : p.1 = k
    · simp [h]
    · have : ¬ ((Sum.inr p.1 : Key) = Sum.inr k) := fun z => h (Sum.inr.inj z)
      rw [if_neg this, if_neg h]
theorem any_toK (f : β → MV) (ps : List (Str × β)) (k : Str) : ((toK f ps).any fun kv => decide (kv.1 = (Sum.inr k : Key))) = ps.any fun p => decide (p.1 = k) := by
  unfold toK
  rw [List.any_map]
  congr 1
  funext p
  exact decide_eq_decide.mpr ⟨fun z => Sum.inr.inj z, fun z => by show Sum.inr p.1 = _; rw [z]⟩
theorem setK_toK (f : β → MV) (ps : List (Str × β)) (k : Str) (v : β) : setK (toK f ps) (.inr k) (f v) = toK f (setA ps k v) := by
  unfold setK setA
  rw [any_toK]
  split
  · unfold toK
    rw [List.map_map, List.map_map]
    apply List.map_congr_left
    intro p _
    show (if (Sum.inr p.1 : Key) = Sum.inr k then _ else _) = _
    by_cases h : p.1 = k
    · simp [h]
    · have : ¬ ((Sum.inr p.1 : Key) = Sum.inr k) := fun z => h (Sum.inr.inj z)
      simp [h]
  · unfold toK; simp
theorem lkA_app (ps qs : List (Str × β)) (k : Str) : lkA (ps ++ qs) k = (lkA ps k).or (lkA qs k) := by
  induction ps with
  | nil => rfl
  | cons p ps ih =>
    rw [List.cons_append, lkA_cons, lkA_cons, ih]
    split <;> rfl
theorem lkA_none {ps : List (Str × β)} {k : Str} : lkA ps k = none ↔ ∀ p ∈ ps, p.1 ≠ k := by
  induction ps with
  | nil => simp [lkA_nil]
  | cons p ps ih =>
    rw [lkA_cons]
    by_cases h : p.1 = k
    · simp [h]
    · simp [h, ih]
theorem lkA_mem {ps : List (Str × β)} {k : Str} {v : β} (h : lkA ps k = some v) : (k, v) ∈ ps := by
  induction ps with
  | nil => cases h
  | cons p ps ih =>
    rw [lkA_cons] at h
    by_cases e : p.1 = k
    · rw [if_pos e] at h; cases h; subst e; exact List.mem_cons_self
    · rw [if_neg e] at h; exact List.mem_cons_of_mem _ (ih h)
theorem nd_cons {p : Str × β} {ps : List (Str × β)} : nd (p :: ps) ↔ (∀ q ∈ ps, q.1 ≠ p.1) ∧ nd ps := by
  unfold nd
  rw [List.map_cons, List.nodup_cons, List.mem_map]
  exact ⟨fun ⟨a, b⟩ => ⟨fun q hq e => a ⟨q, hq, e⟩, b⟩, fun ⟨a, b⟩ => ⟨fun ⟨q, hq, e⟩ => a q hq e, b⟩⟩
theorem nd_nil : nd ([] : List (Str × β)) := List.nodup_nil
theorem mem_lkA {ps : List (Str × β)} (n : nd ps) {p : Str × β} (h : p ∈ ps) : lkA ps p.1 = some p.2 := by
  induction ps with
  | nil => cases h
  | cons q ps ih =>
    obtain ⟨n1, n2⟩ := nd_cons.mp n
    rw [lkA_cons]
    rcases List.mem_cons.mp h with rfl | h
    · simp
    · rw [if_neg (fun z => n1 p h z.symm)]; exact ih n2 h
theorem any_lkA (ps : List (Str × β)) (k : Str) : (ps.any fun p => decide (p.1 = k)) = (lkA ps k).isSome := by
  induction ps with
  | nil => rfl
  | cons p ps ih =>
    rw [List.any_cons, lkA_cons, ih]
    by_cases h : p.1 = k <;> simp [h]
theorem lkA_setA (ps : List (Str × β)) (k j : Str) (v : β) : lkA (setA ps k v) j = if k = j then some v else lkA ps j := by
  unfold setA
  rw [any_lkA]
  cases hk : lkA ps k with
  | some w =>
    simp only [Option.isSome_some, if_true]
    have : ∀ qs : List (Str × β), lkA (qs.map fun p => if p.1 = k then (p.1, v) else p) j = if k = j then (lkA qs k).map fun _ => v else lkA qs j := fun qs => by
      induction qs with
      | nil => simp [lkA_nil]
      | cons q qs ih =>
        rw [List.map_cons, lkA_cons, lkA_cons, lkA_cons, ih]
        by_cases h1 : q.1 = k
        · by_cases h2 : k = j
          · simp [h1, h2]
          · have : ¬ q.1 = j := fun z => h2 (h1.symm.trans z)
            simp [h1, h2]
        · by_cases h2 : k = j
          · subst h2; simp [h1]
          · simp [h1, h2]
    rw [this, hk]; rfl
  | none =>
    simp only [Option.isSome_none, Bool.false_eq_true, if_false]
    rw [lkA_app, lkA_cons, lkA_nil]
    by_cases h : k = j
    · subst h; simp [hk]
    · simp [h]
theorem keys_setA (ps : List (Str × β)) (k : Str) (v : β) : (setA ps k v).map (·.1) = if (lkA ps k).isSome then ps.map (·.1) else ps.map (·.1) ++ [k] := by
  unfold setA
  rw [any_lkA]
  split
  · rw [List.map_map]
    apply List.map_congr_left
    intro p _
    show (if p.1 = k then (p.1, v) else p).1 = p.1
    split <;> rfl
  · simp
theorem nd_setA {ps : List (Str × β)} (n : nd ps) (k : Str) (v : β) : nd (setA ps k v) := by
  unfold nd
  rw [keys_setA]
  cases hk : lkA ps k with
  | some w => simp only [Option.isSome_some, if_true]; exact n
  | none =>
    simp only [Option.isSome_none, Bool.false_eq_true, if_false]
    refine List.nodup_append.mpr ⟨n, by simp, ?_⟩
    intro a ha b hb
    simp only [List.mem_singleton] at hb
    subst hb
    obtain ⟨p, hp, rfl⟩ := List.mem_map.mp ha
    exact lkA_none.mp hk p hp
theorem setA_len (ps : List (Str × β)) (k : Str) (v : β) : (setA ps k v).length ≤ ps.length + 1 := by
  unfold setA
  split
  · rw [List.length_map]; omega
  · simp
theorem mem_setA {ps : List (Str × β)} {k : Str} {v : β} {p : Str × β} (h : p ∈ setA ps k v) : p = (k, v) ∨ (p ∈ ps ∧ p.1 ≠ k) := by
  unfold setA at h
  split at h
  · obtain ⟨q, hq, e⟩ := List.mem_map.mp h
    by_cases hk : q.1 = k
    · rw [if_pos hk] at e; left; rw [← e, hk]
    · rw [if_neg hk] at e; subst e; exact .inr ⟨hq, hk⟩
  · rename_i hno
    rcases List.mem_append.mp h with h | h
    · refine .inr ⟨h, fun e => hno ?_⟩
      exact List.any_eq_true.mpr ⟨p, h, by simpa using e⟩
    · left; simpa using h
/-- the same pairs, in whatever order -/
def eqM [DecidableEq β] (ps qs : List (Str × β)) : Bool := decide (ps.length = qs.length) && ps.all fun p => decide (lkA qs p.1 = some p.2)
theorem eqM_refl [DecidableEq β] {ps : List (Str × β)} (n : nd ps) : eqM ps ps = true := by
  unfold eqM
  simp only [decide_true, Bool.true_and, List.all_eq_true, decide_eq_true_eq]
  exact fun p hp => mem_lkA n hp
end
end Sp

namespace Sp
open PySem MP MF
theorem res_eq {r : Res MV} {v : MV} {m : Mem} (h : ∀ Q E, Q v m → r.wp Q E) : r = .ok v m := by
  have := h (fun a b => a = v ∧ b = m) (fun _ _ => False) ⟨rfl, rfl⟩
  cases r with
  | ok a b => obtain ⟨rfl, rfl⟩ := this; rfl
  | exc c m => exact this.elim
  | bad => exact this.elim
theorem abs_eq (a : Int) : (if a < 0 then -a else a) = (a.natAbs : Int) := by split <;> omega
theorem fmod_nat (a b : Nat) : (a : Int).fmod (b : Int) = ((a % b : Nat) : Int) := by
  rw [Int.fmod_eq_emod_of_nonneg _ (Int.natCast_nonneg _)]
  exact (Int.natCast_emod a b).symm
/-- the loop of Euclid -/
theorem euclid (m : Mem) (P : SR.Post) : ∀ (b a : Nat), P.nx [some (.int (Nat.gcd a b : Nat)), some (.int 0)] m →
    (sWhile (tB (e2 oGt (eVar 1) (eInt 0))) (sPar 0 1 (eVar 1) (e2 oMod (eVar 0) (eVar 1))) [some (.int (a : Int)), some (.int (b : Int))] m).wp P := by
  intro b
  induction b using Nat.strongRecOn with
  | _ b ih =>
    intro a h
    rw [w_while]
    by_cases hb : 0 < b
    · have hb' : (0 : Int) < (b : Int) := by omega
      have hne : (b : Int) ≠ 0 := by omega
      simp only [w_tB, w_e2, var_zero, var_succ, run_int, Res.wp_ok, o_gt, o_bl, hb', decide_true, if_true, w_par, o_mod, ne_eq, hne, not_false_eq_true, true_and, List.set_cons_zero, List.set_cons_succ, fmod_nat]
      refine ih (a % b) (Nat.mod_lt _ hb) b ?_
      rw [Nat.gcd_comm, ← Nat.gcd_rec, Nat.gcd_comm]
      exact h
    · have hb0 : b = 0 := by omega
      subst hb0
      simp only [w_tB, w_e2, var_zero, var_succ, run_int, Res.wp_ok, o_gt, o_bl]
      simpa using h
theorem lshared_eq (a b : Int) (m : Mem) : f_L_shared_8239fc [.int a, .int b] m = .ok (.int (Int.gcd a b : Nat)) m := by
  refine res_eq fun Q E h => ?_
  rw [f_L_shared_8239fc, w_fn (by rfl), b_L_shared_8239fc]
  simp only [w_seq, w_par, w_set, w_e1, var_zero, var_succ, Res.wp_ok, o_abs, abs_eq, List.map_cons, List.map_nil, List.replicate_zero, List.append_nil, List.set_cons_zero, List.set_cons_succ]
  refine euclid m _ _ _ ?_
  simp only [w_ret, var_zero, Res.wp_ok]
  exact h

/-- a fraction as the program has it -/
def fr (q : Rat) : MV := .tup [.int q.num, .int (q.den : Int)]
/-- both signs of the bottom: by = the divisor with the bottom's sign -/
theorem frac_val (a b : Int) (hb : b ≠ 0) : MV.tup [.int (a.fdiv (b.sign * Int.gcd a b)), .int (b.fdiv (b.sign * Int.gcd a b))] = fr (Rat.divInt a b) := by
  have hg : ((Int.gcd a b : Nat) : Int) ≠ 0 := by
    have : Int.gcd a b ≠ 0 := fun z => hb (Int.gcd_eq_zero_iff.mp z).2
    omega
  obtain ⟨c, hc⟩ : ((Int.gcd a b : Nat) : Int) ∣ a := Int.gcd_dvd_left ..
  obtain ⟨d, hd⟩ : ((Int.gcd a b : Nat) : Int) ∣ b := Int.gcd_dvd_right ..
  have hgp : (0 : Int) < ((Int.gcd a b : Nat) : Int) := by omega
  generalize hG : Int.gcd a b = g at *
  unfold fr
  rw [Rat.num_divInt, Rat.den_divInt, Int.gcd_comm b a, hG, if_neg hb]
  rcases Int.lt_or_lt_of_ne hb with hs | hs
  · rw [Int.sign_eq_neg_one_of_neg hs]
    have e1 : (-1 : Int) * (g : Int) = -(g : Int) := by omega
    have hd0 : d < 0 := by
      rcases Int.lt_or_le d 0 with h | h
      · exact h
      · have := Int.mul_nonneg (Int.le_of_lt hgp) h
        omega
    have ea : a.fdiv (-(g : Int)) = -c := by
      rw [hc, show (g : Int) * c = (-(g : Int)) * (-c) from (Int.neg_mul_neg _ _).symm, Int.mul_fdiv_cancel_left _ (by omega)]
    have eb : b.fdiv (-(g : Int)) = -d := by
      rw [hd, show (g : Int) * d = (-(g : Int)) * (-d) from (Int.neg_mul_neg _ _).symm, Int.mul_fdiv_cancel_left _ (by omega)]
    have en : -1 * a / (g : Int) = -c := by
      rw [hc, show -1 * ((g : Int) * c) = (g : Int) * (-c) by rw [Int.mul_neg, Int.neg_mul, Int.one_mul], Int.mul_ediv_cancel_left _ hg]
    have hn : b.natAbs = g * d.natAbs := by rw [hd, Int.natAbs_mul]; simp
    have ed : ((b.natAbs / g : Nat) : Int) = -d := by
      rw [hn, Nat.mul_div_cancel_left _ (by omega)]
      omega
    rw [e1, ea, eb, en, ed]
  · rw [Int.sign_eq_one_of_pos hs]
    have e1 : (1 : Int) * (g : Int) = (g : Int) := by omega
    have hd0 : 0 < d := by
      rcases Int.lt_or_le 0 d with h | h
      · exact h
      · have := Int.mul_nonneg (Int.le_of_lt hgp) (show 0 ≤ -d by omega)
        rw [Int.mul_neg] at this
        omega
    have ea : a.fdiv (g : Int) = c := by
      rw [hc, Int.mul_fdiv_cancel_left _ hg]
    have eb : b.fdiv (g : Int) = d := by
      rw [hd, Int.mul_fdiv_cancel_left _ hg]
    have en : 1 * a / (g : Int) = c := by
      rw [Int.one_mul, hc, Int.mul_ediv_cancel_left _ hg]
    have hn : b.natAbs = g * d.natAbs := by rw [hd, Int.natAbs_mul]; simp
    have ed : ((b.natAbs / g : Nat) : Int) = d := by
      rw [hn, Nat.mul_div_cancel_left _ (by omega)]
      omega
    rw [e1, ea, eb, en, ed]
theorem gcd_bound {a b : Int} (hb : b ≠ 0) {B : Nat} (h : b.natAbs < B) : Int.gcd a b < B ∧ Int.gcd a b ≠ 0 := by
  have h1 : Int.gcd a b ∣ b.natAbs := Nat.gcd_dvd_right _ _
  have h2 : 0 < b.natAbs := by omega
  have h3 := Nat.le_of_dvd h2 h1
  exact ⟨by omega, fun z => by rw [z] at h1; have := Nat.eq_zero_of_zero_dvd h1; omega⟩
theorem lfrac_eq (a b : Int) (hb : b ≠ 0) (hB : b.natAbs < DIVB) (m : Mem) : f_L_frac_99180f [.int a, .int b] m = .ok (fr (Rat.divInt a b)) m := by
  refine res_eq fun Q E h => ?_
  obtain ⟨g1, g2⟩ := gcd_bound (a := a) hb hB
  rw [f_L_frac_99180f, w_fn (by rfl), b_L_frac_99180f]
  rw [← frac_val a b hb] at h
  by_cases hs : b < 0
  · have e : b.sign * (Int.gcd a b : Int) = -(Int.gcd a b : Int) := by rw [Int.sign_eq_neg_one_of_neg hs]; omega
    rw [e] at h
    simp [w_if, w_set, hb, hs, lshared_eq, g2, LINE, g1, h]
  · have e : b.sign * (Int.gcd a b : Int) = (Int.gcd a b : Int) := by rw [Int.sign_eq_one_of_pos (by omega)]; omega
    rw [e] at h
    simp [w_if, w_set, hb, hs, lshared_eq, g2, LINE, g1, h]
end Sp

namespace Sp
open PySem MP MF
theorem mulOk_c {x c : Int} (h : c.natAbs < 18446744073709551616) : mulOk x c := .inr (.inl h)
/-- one turn -/
theorem mixed_turn (P : SR.Post) (s n p c : Int) (k : Nat) (T : MV) (a b d e f : Option MV) (m : Mem) (hp : 0 < p) (hp2 : p < 18446744073709551616) (hk : k < 100) (hx : oIx (.tup [.int 11, .int 101, .int 1009, .int 10007, .int 100003]) (.int (k : Int)) m = .ok (.int c) m)
    (h : ∀ x : Int, P.nx [some (.int s), some T, some (.int (n * p + x.fmod p)), some (.int (k : Int)), some (.int p), some (.int ((s + c) * (48271 + 2 * k) |>.fmod p)), some (.int (((s + c) * (48271 + 2 * k)).fmod p * ((s + c) * (48271 + 2 * k)).fmod p |>.fmod p)), some (.int (x.fmod p))] m) :
    (gTup [gName 3, gName 4] (.tup [.int (k : Int), .int p]) [some (.int s), some T, some (.int n), a, b, d, e, f] m).wp { P with nx := fun fr m => ((MP.sSeq (MP.sSet 5 (MP.e2 MP.oAdd (MP.eVar 0) (MP.e2 MP.oIx (MP.eTup (MP.aL [MP.eInt 11, MP.eInt 101, MP.eInt 1009, MP.eInt 10007, MP.eInt 100003])) (MP.eVar 3)))) (MP.sSeq (MP.sSet 5 (MP.e2 MP.oMod (MP.e2 MP.oMul (MP.eVar 5) (MP.e2 MP.oAdd (MP.eInt 48271) (MP.e2 MP.oMul (MP.eInt 2) (MP.eVar 3)))) (MP.eVar 4))) (MP.sSeq (MP.sSet 6 (MP.e2 MP.oMod (MP.e2 MP.oMul (MP.eVar 5) (MP.eVar 5)) (MP.eVar 4))) (MP.sSeq (MP.sSet 7 (MP.e2 MP.oMod (MP.e2 MP.oMul (MP.e2 MP.oMod (MP.e2 MP.oMul (MP.eVar 6) (MP.eVar 6)) (MP.eVar 4)) (MP.eVar 5)) (MP.eVar 4))) (MP.sSet 2 (MP.e2 MP.oAdd (MP.e2 MP.oMul (MP.eVar 2) (MP.eVar 4)) (MP.eVar 7))))))) fr m).wp P } := by
  have hpn : p.natAbs < 18446744073709551616 := by omega
  have hne : p ≠ 0 := by omega
  have h48 : (48271 + 2 * (k : Int)).natAbs < 18446744073709551616 := by omega
  have h2 : mulOk 2 (k : Int) := .inl (by decide)
  have hf : ∀ x y : Int, mulOk (x.fmod p) y := fun x y => mulOk_fmod ⟨hp, hp2⟩
  have hr : ∀ x : Int, mulOk x p := fun x => mulOk_c hpn
  simp only [w_gTup, List.length_cons, List.length_nil, if_true, w_gAll1, w_gAll0, w_gName, w_seq, w_set, w_e2, w_tup, w_aL1, w_aL0, run_int, var_zero, var_succ, Res.wp_ok, List.set_cons_zero, List.set_cons_succ, o_add, o_mul, o_mod, hx, mulOk_c h48, h2, hf, hr, hne, ne_eq, not_false_eq_true, true_and]
  exact ⟨by decide, h _⟩

theorem mixed_wp (s : Int) (m : Mem) (Q : MV → Mem → Prop) (E : Str → Mem → Prop) (h : ∀ r, 0 ≤ r → Q (.int r) m) : (f_L_mixed_8bea50 [.int s] m).wp Q E := by
  rw [f_L_mixed_8bea50, w_fn (by rfl), b_L_mixed_8bea50]
  simp only [w_seq, w_set, w_tup, w_aL1, w_aL0, run_int, Res.wp_ok, List.map_cons, List.map_nil, List.replicate, List.append, List.cons_append, List.nil_append, List.set_cons_zero, List.set_cons_succ, List.length_cons, List.length_nil]
  refine ⟨by decide, ?_⟩
  rw [w_for (w := ⟨enumL [.int 2147483647, .int 2147483629, .int 2147483587, .int 2147483579, .int 2147483563] 0, fun _ => True, none⟩) (m1 := m) rfl rfl]
  simp only [enumL, w_forL1, w_forL0, true_and]
  have st : ∀ (n p x : Int), 0 ≤ n → 0 < p → 0 ≤ n * p + x.fmod p := fun n p x hn hp => Int.add_nonneg (Int.mul_nonneg hn (Int.le_of_lt hp)) (Int.fmod_nonneg_of_pos x hp)
  refine mixed_turn _ s _ _ 11 0 _ _ _ _ _ _ m (by decide) (by decide) (by decide) rfl fun x0 => ?_
  have g0 := st 0 2147483647 x0 (by decide) (by decide)
  generalize (0 : Int) * 2147483647 + x0.fmod 2147483647 = n0 at g0 ⊢
  refine mixed_turn _ s _ _ 101 1 _ _ _ _ _ _ m (by decide) (by decide) (by decide) rfl fun x1 => ?_
  have g1 := st n0 2147483629 x1 g0 (by decide)
  generalize n0 * 2147483629 + x1.fmod 2147483629 = n1 at g1 ⊢
  refine mixed_turn _ s _ _ 1009 2 _ _ _ _ _ _ m (by decide) (by decide) (by decide) rfl fun x2 => ?_
  have g2 := st n1 2147483587 x2 g1 (by decide)
  generalize n1 * 2147483587 + x2.fmod 2147483587 = n2 at g2 ⊢
  refine mixed_turn _ s _ _ 10007 3 _ _ _ _ _ _ m (by decide) (by decide) (by decide) rfl fun x3 => ?_
  have g3 := st n2 2147483579 x3 g2 (by decide)
  generalize n2 * 2147483579 + x3.fmod 2147483579 = n3 at g3 ⊢
  refine mixed_turn _ s _ _ 100003 4 _ _ _ _ _ _ m (by decide) (by decide) (by decide) rfl fun x4 => ?_
  have g4 := st n3 2147483563 x4 g3 (by decide)
  generalize n3 * 2147483563 + x4.fmod 2147483563 = n4 at g4 ⊢
  simp only [w_ret, var_zero, var_succ, Res.wp_ok]
  exact h n4 g4
end Sp

namespace Sp
open PySem MP MF
/-- the law's state at n, its cells at c -/
structure StAt (m : Mem) (n c : Nat) (cells : List Int) (at_ num : Int) (fl : Bool) : Prop where
  st : m[n]? = some (.lst [.ref c, .int at_, .int num, .bl fl])
  ce : m[c]? = some (.lst (cells.map MV.int))
  ne : n ≠ c
  le : cells.length ≤ 1000
  a0 : 0 ≤ at_
  n0 : 0 ≤ num
theorem divb_small {j : Int} (h : j.natAbs < 18446744073709551616) : j.natAbs < DIVB := Nat.lt_of_lt_of_le h (by have := divb_le (n := 64) (by decide); omega)
theorem ix_map {cells : List Int} {i : Int} (h0 : 0 ≤ i) (h1 : i < cells.length) : ∃ z, atI (cells.map MV.int) i = some (.int z) := by
  unfold atI
  have hl : i.toNat < cells.length := by omega
  exact ⟨cells[i.toNat], by rw [if_pos h0]; simp [hl]⟩
section
variable {m : Mem} {n c : Nat} {cells : List Int} {at_ num : Int} {fl : Bool} {Q : MV → Mem → Prop} {E : Str → Mem → Prop}
theorem fill_wp (S : StAt m n c cells at_ num fl) (h : ∀ num' fl', 0 ≤ num' → Q .non (m.set n (.lst [.ref c, .int (at_ + 1), .int num', .bl fl']))) : (f_L_fill_107c3d [.ref n] m).wp Q E := by
  obtain ⟨h1, h2, h3, h4, h5, h6⟩ := S
  have hlt : n < m.length := (List.getElem?_eq_some_iff.mp h1).1
  have q1 : ∀ x, (m.set n x)[n]? = some x := fun x => List.getElem?_set_self hlt
  have q2 : ∀ x, (m.set n x)[c]? = some (.lst (cells.map MV.int)) := fun x => by rw [List.getElem?_set_ne h3]; exact h2
  rw [f_L_fill_107c3d, w_fn (by rfl), b_L_fill_107c3d]
  have h31 : mulOk 31 at_ := .inl (by decide)
  have hmu : ∀ x, mulOk 104729 x := fun x => .inl (by decide)
  -- behind the seed
  have rest : ∀ (seed : Int) (f4 : Fr), f4 = [some (.ref n), some (.ref c), some (.int at_), some (.int seed)] →
      ((sSeq (sAsg (e2 oAdd (eVar 2) (eInt 1)) (gSub (eVar 0) (eInt 1))) (sSeq (sAsg (eOr (e2 oGe (eVar 2) (e1 oLen (eVar 1))) (e2 oLt (eVar 3) (eInt (10 ^ 18)))) (gSub (eVar 0) (eInt 3))) (sIf (tE (e2 oIx (eVar 0) (eInt 3))) (sAsg (eCall f_L_mixed_8bea50 (aL [eVar 3])) (gSub (eVar 0) (eInt 2))) (sAsg (e2 oSub (eVar 3) (eInt (10 ^ 18))) (gSub (eVar 0) (eInt 2)))))) f4 m).wp { nx := fun _ m' => Q .non m', rt := Q, ex := fun c _ m' => E c m' } := by
    rintro seed f4 rfl
    simp only [w_seq, w_asg, w_e2, w_gSub, var_zero, var_succ, run_int, Res.wp_ok, o_add, put_lst h1, atN, List.length_cons, List.length_nil]
    simp [q1, q2, o_lenL (q2 _), o_ixL (q1 _), put_lst (q1 _), atN, List.set_set, if_bl, if_bl']
    split
    · refine mixed_wp _ _ _ _ fun r hr => ?_
      simp only [put_lst (q1 _), atN, List.length_cons, List.length_nil]
      simpa [List.set_set] using h r true hr
    · split
      · refine mixed_wp _ _ _ _ fun r hr => ?_
        simp only [put_lst (q1 _), atN, List.length_cons, List.length_nil]
        simpa [List.set_set] using h r _ hr
      · exact h _ _ (by omega)
  simp only [w_seq, w_par, w_set, w_if, w_tB, w_e1, w_e2, var_zero, var_succ, run_int, Res.wp_ok, List.map_cons, List.map_nil, List.replicate, List.cons_append, List.nil_append, List.set_cons_zero, List.set_cons_succ, o_ixL h1, at0, at1, o_lenL h2, o_mul, h31, true_and, o_add, o_gt, o_bl, List.length_map]
  by_cases hL : 0 < (cells.length : Int)
  · have hne : (cells.length : Int) ≠ 0 := by omega
    have hd : (cells.length : Int).natAbs < DIVB := divb_small (by omega)
    have hf0 := Int.fmod_nonneg_of_pos at_ hL
    have hf1 := Int.fmod_lt_of_pos at_ hL
    obtain ⟨z, hz⟩ := ix_map hf0 hf1
    simp only [hL, decide_true, if_true, o_lenL h2, List.length_map, o_div, o_mul, hmu, true_and, ne_eq, hne, not_false_eq_true, hd, o_mod, o_ixL h2, hz, Res.wp_ok, o_add, and_self]
    have r' := rest (104729 * at_.fdiv (cells.length : Int) + z) _ rfl
    simp only [w_seq, w_if] at r'
    exact r'
  · simp only [hL, decide_false, Bool.false_eq_true, if_false, w_pass]
    have r' := rest (31 * at_ + 7) _ rfl
    simp only [w_seq, w_if] at r'
    exact r'
end
end Sp

namespace Sp
open PySem MP MF
section
variable {m : Mem} {n c : Nat} {cells : List Int} {at_ num : Int} {fl : Bool} {Q : MV → Mem → Prop} {E : Str → Mem → Prop}
theorem StAt.of_set (S : StAt m n c cells at_ num fl) {a' n' : Int} {f' : Bool} (ha : 0 ≤ a') (hn : 0 ≤ n') : StAt (m.set n (.lst [.ref c, .int a', .int n', .bl f'])) n c cells a' n' f' := by
  obtain ⟨h1, h2, h3, h4, h5, h6⟩ := S
  have hlt : n < m.length := (List.getElem?_eq_some_iff.mp h1).1
  exact ⟨List.getElem?_set_self hlt, by rw [List.getElem?_set_ne h3]; exact h2, h3, h4, ha, hn⟩
theorem StAt.self (S : StAt m n c cells at_ num fl) : m.set n (.lst [.ref c, .int at_, .int num, .bl fl]) = m := by
  obtain ⟨h1, _⟩ := S
  apply List.ext_getElem?
  intro i
  by_cases hi : n = i
  · subst hi
    rw [List.getElem?_set_self (List.getElem?_eq_some_iff.mp h1).1, h1]
  · rw [List.getElem?_set_ne hi]
theorem take_wp (S : StAt m n c cells at_ num fl) {many : Int} (hm : 0 < many) (hd : many.natAbs < DIVB) (h : ∀ d a' n' f', 0 ≤ d → d < many → 0 ≤ a' → 0 ≤ n' → Q (.int d) (m.set n (.lst [.ref c, .int a', .int n', .bl f']))) : (f_L_take_f2d2c3 [.ref n, .int many] m).wp Q E := by
  have hmu : ∀ x : Int, mulOk x 4096 := fun x => mulOk_c (by decide)
  have hmf : ∀ x y : Int, mulOk x (1 + y.fmod 4093) := fun x y => mulOk_c (by
    have h1 := Int.fmod_nonneg_of_pos y (show (0 : Int) < 4093 by decide)
    have h2 := Int.fmod_lt_of_pos y (show (0 : Int) < 4093 by decide)
    omega)
  have hpos : ∀ n2 : Int, 0 ≤ n2 → 0 ≤ n2 + many * 4096 * (1 + n2.fmod 4093) := fun n2 hn2 => by
    have g1 := Int.fmod_nonneg_of_pos n2 (show (0 : Int) < 4093 by decide)
    exact Int.add_nonneg hn2 (Int.mul_nonneg (by omega) (by omega))
  rw [f_L_take_f2d2c3, w_fn (by rfl), b_L_take_f2d2c3]
  simp only [w_seq, w_set, run_int, Res.wp_ok, List.map_cons, List.map_nil, List.replicate, List.cons_append, List.nil_append, List.set_cons_zero, List.set_cons_succ]
  refine while_inv (fun N fr m' => ∃ (k a' n' : Int) (f' : Bool), fr = [some (.ref n), some (.int many), some (.int k), none] ∧ (64 - k).toNat = N ∧ m' = m.set n (.lst [.ref c, .int a', .int n', .bl f']) ∧ 0 ≤ a' ∧ 0 ≤ n') ?_ 64 ⟨0, at_, num, fl, rfl, rfl, S.self.symm, S.a0, S.n0⟩
  rintro N fr m' ⟨k, a', n', f', rfl, hN, rfl, ha, hn⟩
  have S1 := S.of_set (f' := f') ha hn
  have fin : (sSet 3 (e2 oMod (e2 oIx (eVar 0) (eInt 2)) (eVar 1)) [some (.ref n), some (.int many), some (.int k), none] (m.set n (.lst [.ref c, .int a', .int n', .bl f']))).wp { nx := fun fr m => (sAsg (e2 oDiv (e2 oIx (eVar 0) (eInt 2)) (eVar 1)) (gSub (eVar 0) (eInt 2)) fr m).wp { nx := fun fr m => (sRet (eVar 3) fr m).wp { nx := fun _ m' => Q .non m', rt := Q, ex := fun c _ m' => E c m' }, rt := Q, ex := fun c _ m' => E c m' }, rt := Q, ex := fun c _ m' => E c m' } := by
    have hne : many ≠ 0 := by omega
    simp only [w_set, w_asg, w_gSub, w_ret, w_e2, var_zero, var_succ, run_int, Res.wp_ok, o_ixL S1.st, at2, o_mod, o_div, ne_eq, hne, not_false_eq_true, hd, true_and, and_self, List.set_cons_zero, List.set_cons_succ, put_lst S1.st, atN]
    simp [List.set_set]
    exact h _ a' _ f' (Int.fmod_nonneg_of_pos n' hm) (Int.fmod_lt_of_pos n' hm) ha (Int.fdiv_nonneg hn (by omega))
  have body : k < 64 → (sSeq (sExpr (eCall f_L_fill_107c3d (aL [eVar 0]))) (sSeq (sAug 2 (eInt 1)) (sIf (tAnd (tE (e2 oIx (eVar 0) (eInt 3))) (tB (e2 oLt (e2 oIx (eVar 0) (eInt 2)) (e2 oMul (eVar 1) (eInt 4096))))) (sAsg (e2 oAdd (e2 oIx (eVar 0) (eInt 2)) (e2 oMul (e2 oMul (eVar 1) (eInt 4096)) (e2 oAdd (eInt 1) (e2 oMod (e2 oIx (eVar 0) (eInt 2)) (eInt 4093))))) (gSub (eVar 0) (eInt 2))) sPass)) [some (.ref n), some (.int many), some (.int k), none] (m.set n (.lst [.ref c, .int a', .int n', .bl f']))).wp
      { nx := fun fr m' => ∃ N', N' < N ∧ ∃ (k a' n' : Int) (f' : Bool), fr = [some (.ref n), some (.int many), some (.int k), none] ∧ (64 - k).toNat = N' ∧ m' = m.set n (.lst [.ref c, .int a', .int n', .bl f']) ∧ 0 ≤ a' ∧ 0 ≤ n', rt := Q, bk := fun _ _ => False,
        ct := fun fr m' => ∃ N', N' < N ∧ ∃ (k a' n' : Int) (f' : Bool), fr = [some (.ref n), some (.int many), some (.int k), none] ∧ (64 - k).toNat = N' ∧ m' = m.set n (.lst [.ref c, .int a', .int n', .bl f']) ∧ 0 ≤ a' ∧ 0 ≤ n', ex := fun c _ m' => E c m' } := fun hk => by
    simp only [w_seq, w_expr, w_call, w_aL1, w_aL0, var_zero, Res.wp_ok]
    refine fill_wp S1 fun n2 f2 hn2 => ?_
    have S2 := S1.of_set (a' := a' + 1) (f' := f2) (by omega) hn2
    rw [w_aug (a := k) rfl]
    have nxt : ∀ n3 : Int, 0 ≤ n3 → ∃ N', N' < N ∧ ∃ (k' a'' n'' : Int) (f'' : Bool), [some (MV.ref n), some (MV.int many), some (MV.int (k + 1)), none] = [some (.ref n), some (.int many), some (.int k'), none] ∧ (64 - k').toNat = N' ∧ m.set n (.lst [.ref c, .int (a' + 1), .int n3, .bl f2]) = m.set n (.lst [.ref c, .int a'', .int n'', .bl f'']) ∧ 0 ≤ a'' ∧ 0 ≤ n'' := fun n3 hn3 => ⟨(64 - (k + 1)).toNat, by omega, k + 1, a' + 1, n3, f2, rfl, rfl, rfl, by omega, hn3⟩
    have S3 := S2
    rw [List.set_set] at S3 ⊢
    have hp : ∀ v, putIx (.ref n) (.int 2) v (m.set n (.lst [.ref c, .int (a' + 1), .int n2, .bl f2])) = some ((m.set n (.lst [.ref c, .int (a' + 1), .int n2, .bl f2])).set n (.lst [.ref c, .int (a' + 1), v, .bl f2])) := fun v => by rw [put_lst S3.st]; rfl
    simp only [run_int, Res.wp_ok, List.set_cons_zero, List.set_cons_succ, w_if, w_tAnd, w_tE, w_tB, w_e2, var_zero, var_succ, o_ixL S3.st, at2, at3, tr_bl, o_lt, o_bl, o_mul, hmu, hmf, true_and, w_pass, w_asg, w_gSub, o_mod, o_add, hp, List.set_set]
    have h4 : (4093 : Int) ≠ 0 := by decide
    repeat' split
    all_goals first | exact nxt _ hn2 | exact ⟨h4, nxt _ (hpos n2 hn2)⟩ | trace_state
  simp only [w_tAnd, w_tOr, w_tB, w_tE, w_e2, var_zero, var_succ, run_int, Res.wp_ok, o_lt, o_bl, o_ixL S1.st, at2, at3, o_eqi, tr_bl, o_mul, hmu, true_and]
  by_cases hk : k < 64
  · simp only [hk, decide_true, if_true]
    repeat' split
    all_goals first | exact SR.wp_mono (body hk) (fun _ _ h => h) (fun _ _ h => h) (fun _ _ h => h.elim) (fun _ _ h => h) (fun _ _ _ h => h) | (have f2 := fin; simp only [w_set, w_e2, var_zero, var_succ, run_int, Res.wp_ok, o_ixL S1.st, at2] at f2; exact f2) | trace_state
  · simp only [hk, decide_false, Bool.false_eq_true, if_false]
    have f2 := fin
    simp only [w_set, w_e2, var_zero, var_succ, run_int, Res.wp_ok, o_ixL S1.st, at2] at f2
    exact f2
end
end Sp

namespace Sp
open PySem MP MF
/-! ### sizes -/
def Sz (B : Nat) (q : Rat) : Prop := q.num.natAbs < 2 ^ B ∧ q.den < 2 ^ B
theorem Sz.mono {B C : Nat} {q : Rat} (h : Sz B q) (hc : B ≤ C) : Sz C q := by
  have := Nat.pow_le_pow_right (show 0 < 2 by decide) hc
  exact ⟨Nat.lt_of_lt_of_le h.1 this, Nat.lt_of_lt_of_le h.2 this⟩
theorem divInt_num_le (a b : Int) : (Rat.divInt a b).num.natAbs ≤ a.natAbs := by
  rw [Rat.num_divInt]
  refine Nat.le_trans (Int.natAbs_ediv_le_natAbs _ _) ?_
  rw [Int.natAbs_mul]
  have : b.sign.natAbs ≤ 1 := by
    rcases Int.lt_trichotomy b 0 with h | h | h
    · rw [Int.sign_eq_neg_one_of_neg h]; decide
    · subst h; decide
    · rw [Int.sign_eq_one_of_pos h]; decide
  calc b.sign.natAbs * a.natAbs ≤ 1 * a.natAbs := Nat.mul_le_mul_right _ this
    _ = a.natAbs := Nat.one_mul _
theorem divInt_den_le (a b : Int) (hb : b ≠ 0) : (Rat.divInt a b).den ≤ b.natAbs := by
  rw [Rat.den_divInt, if_neg hb]
  exact Nat.div_le_self _ _
theorem sz_divInt {a b : Int} {B : Nat} (hb : b ≠ 0) (h1 : a.natAbs < 2 ^ B) (h2 : b.natAbs < 2 ^ B) : Sz B (Rat.divInt a b) :=
  ⟨Nat.lt_of_le_of_lt (divInt_num_le a b) h1, Nat.lt_of_le_of_lt (divInt_den_le a b hb) h2⟩
theorem fr_int (i : Int) : MV.tup [.int i, .int 1] = fr (i : Rat) := rfl
section
variable {m : Mem} {n c : Nat} {cells : List Int} {at_ num : Int} {fl : Bool} {Q : MV → Mem → Prop} {E : Str → Mem → Prop}
theorem number_wp (S : StAt m n c cells at_ num fl) (h : ∀ (q : Rat) a' n' f', Sz 10 q → 0 ≤ a' → 0 ≤ n' → Q (fr q) (m.set n (.lst [.ref c, .int a', .int n', .bl f']))) : (f_L_number_13ee60 [.ref n] m).wp Q E := by
  rw [f_L_number_13ee60, w_fn (by rfl), b_L_number_13ee60]
  simp only [w_seq, w_set, w_e2, w_call, w_aL1, w_aL0, var_zero, var_succ, run_int, Res.wp_ok, List.map_cons, List.map_nil, List.replicate, List.cons_append, List.nil_append, List.set_cons_zero, List.set_cons_succ]
  refine take_wp S (by decide) (divb_small (by decide)) fun d1 a1 n1 f1 d1a d1b h1 h2 => ?_
  have S1 := S.of_set (f' := f1) h1 h2
  refine take_wp S1 (by decide) (divb_small (by decide)) fun d2 a2 n2 f2 d2a d2b h3 h4 => ?_
  have S2 := S1.of_set (f' := f2) h3 h4
  rw [List.set_set] at S2 ⊢
  simp only [o_sub, Res.wp_ok, List.set_cons_zero, List.set_cons_succ, var_zero, var_succ]
  refine take_wp S2 (by decide) (divb_small (by decide)) fun d3 a3 n3 f3 d3a d3b h5 h6 => ?_
  have S3 := S2.of_set (f' := f3) h5 h6
  rw [List.set_set] at S3 ⊢
  simp only [o_sub, Res.wp_ok, List.set_cons_zero, List.set_cons_succ, var_zero, var_succ]
  refine take_wp S3 (by decide) (divb_small (by decide)) fun d4 a4 n4 f4 d4a d4b h7 h8 => ?_
  rw [List.set_set]
  simp only [o_add, Res.wp_ok, List.set_cons_zero, List.set_cons_succ, w_if, w_tB, w_e2, var_zero, var_succ, run_int, o_eqi, o_bl, w_ret, w_tup, w_aL1, w_aL0, w_pass, w_call]
  have r1 : f_L_frac_99180f [.int (d3 - 999), .int (1 + d4)] (m.set n (.lst [.ref c, .int a4, .int n4, .bl f4])) = .ok (fr (Rat.divInt (d3 - 999) (1 + d4))) _ := lfrac_eq _ _ (by omega) (divb_small (by omega)) _
  have hf0 := Int.fmod_nonneg_of_pos (1 + d4) (show (0 : Int) < 4 by decide)
  have hf1 := Int.fmod_lt_of_pos (1 + d4) (show (0 : Int) < 4 by decide)
  have r2 : f_L_frac_99180f [.int (d2 - 6), .int (1 + (1 + d4).fmod 4)] (m.set n (.lst [.ref c, .int a4, .int n4, .bl f4])) = .ok (fr (Rat.divInt (d2 - 6) (1 + (1 + d4).fmod 4))) _ := lfrac_eq _ _ (by omega) (divb_small (by omega)) _
  simp only [o_mod, o_add, r1, r2, Res.wp_ok, fr_int]
  split
  · exact ⟨by decide, h 0 _ _ _ ⟨by decide, by decide⟩ h7 h8⟩
  · split
    · exact h _ _ _ _ (sz_divInt (by omega) (by omega) (by omega)) h7 h8
    · split
      · exact ⟨by decide, h _ _ _ _ (sz_divInt (by omega) (by omega) (by omega)) h7 h8⟩
      · exact ⟨by simp [LINE], h ((d2 - 6 : Int) : Rat) _ _ _ ⟨by show (d2 - 6).natAbs < _; omega, by show (1 : Nat) < _; decide⟩ h7 h8⟩
end
end Sp

namespace Sp
open PySem MP MF
/-! ### the program's fractions -/
theorem natAbs_mul_lt {B C : Nat} {i j : Int} (h1 : i.natAbs < 2 ^ B) (h2 : j.natAbs < 2 ^ C) : (i * j).natAbs < 2 ^ (B + C) := by
  rw [Int.natAbs_mul, Nat.pow_add]
  exact Nat.mul_lt_mul'' h1 h2
theorem divb_pow {B : Nat} {i : Int} (h : i.natAbs < 2 ^ B) (hB : B ≤ 8999) : i.natAbs < DIVB := Nat.lt_of_lt_of_le h (divb_le hB)
theorem Sz.n {B : Nat} {q : Rat} (h : Sz B q) : q.num.natAbs < 2 ^ B := h.1
theorem Sz.d {B : Nat} {q : Rat} (h : Sz B q) : (q.den : Int).natAbs < 2 ^ B := by rw [Int.natAbs_natCast]; exact h.2
theorem den_ne (q : Rat) : (q.den : Int) ≠ 0 := by have := q.den_nz; omega
section
variable {a b : Rat} {B : Nat} (ha : Sz B a) (hb : Sz B b) (hB : B ≤ 4000) (m : Mem)
include ha hb hB
end
end Sp

namespace Sp
open PySem MP MF
end Sp

namespace Sp
open PySem MP MF
/-- the law's state stands -/
def Sta (n c : Nat) (m : Mem) : Prop := ∃ cells a num fl, StAt m n c cells a num fl
theorem Sta.set {n c : Nat} {m : Mem} (S : Sta n c m) {a' n' : Int} {f' : Bool} (ha : 0 ≤ a') (hn : 0 ≤ n') : Sta n c (m.set n (.lst [.ref c, .int a', .int n', .bl f'])) := by
  obtain ⟨cells, a, num, fl, S⟩ := S
  exact ⟨_, _, _, _, S.of_set ha hn⟩
theorem Sta.other {n c k : Nat} {m : Mem} (S : Sta n c m) (o : MO) (h1 : k ≠ n) (h2 : k ≠ c) : Sta n c (m.set k o) := by
  obtain ⟨cells, a, num, fl, h⟩ := S
  exact ⟨_, _, _, _, by rw [List.getElem?_set_ne h1]; exact h.st, by rw [List.getElem?_set_ne h2]; exact h.ce, h.ne, h.le, h.a0, h.n0⟩
theorem Sta.push {n c : Nat} {m : Mem} (S : Sta n c m) (l : List MO) : Sta n c (m ++ l) := by
  obtain ⟨cells, a, num, fl, h⟩ := S
  exact ⟨_, _, _, _, by rw [List.getElem?_append_left (List.getElem?_eq_some_iff.mp h.st).1]; exact h.st, by rw [List.getElem?_append_left (List.getElem?_eq_some_iff.mp h.ce).1]; exact h.ce, h.ne, h.le, h.a0, h.n0⟩
theorem Sta.lt {n c : Nat} {m : Mem} (S : Sta n c m) : n < m.length ∧ c < m.length := by
  obtain ⟨cells, a, num, fl, h⟩ := S
  exact ⟨(List.getElem?_eq_some_iff.mp h.st).1, (List.getElem?_eq_some_iff.mp h.ce).1⟩
/-- what stays but for the state -/
def Oth (n : Nat) (m m' : Mem) : Prop := m'.length = m.length ∧ ∀ k, k ≠ n → m'[k]? = m[k]?
theorem Oth.refl (n : Nat) (m : Mem) : Oth n m m := ⟨rfl, fun _ _ => rfl⟩
theorem Oth.trans {n : Nat} {m m1 m2 : Mem} (a : Oth n m m1) (b : Oth n m1 m2) : Oth n m m2 := ⟨b.1.trans a.1, fun k h => (b.2 k h).trans (a.2 k h)⟩
theorem Oth.set (n : Nat) (m : Mem) (o : MO) : Oth n m (m.set n o) := ⟨List.length_set, fun k h => List.getElem?_set_ne (Ne.symm h)⟩
section
variable {m : Mem} {n c : Nat} {Q : MV → Mem → Prop} {E : Str → Mem → Prop}
theorem take_s (S : Sta n c m) {many : Int} (hm : 0 < many) (hd : many.natAbs < DIVB) (h : ∀ d m', 0 ≤ d → d < many → Sta n c m' → Oth n m m' → Q (.int d) m') : (f_L_take_f2d2c3 [.ref n, .int many] m).wp Q E := by
  obtain ⟨cells, a, num, fl, S0⟩ := S
  exact take_wp S0 hm hd fun d a' n' f' h1 h2 h3 h4 => h d _ h1 h2 ⟨_, _, _, _, S0.of_set h3 h4⟩ (Oth.set _ _ _)
theorem number_s (S : Sta n c m) (h : ∀ q m', Sz 10 q → Sta n c m' → Oth n m m' → Q (fr q) m') : (f_L_number_13ee60 [.ref n] m).wp Q E := by
  obtain ⟨cells, a, num, fl, S0⟩ := S
  exact number_wp S0 fun q a' n' f' h1 h3 h4 => h q _ h1 ⟨_, _, _, _, S0.of_set h3 h4⟩ (Oth.set _ _ _)
end
theorem fresh_wp {ns : List Int} {o : MO} (ho : o = MO.lst (ns.map MV.int) ∨ o = MO.rol (ns.map MV.int)) (hl : ns.length ≤ 63) (Q : MV → Mem → Prop) (E : Str → Mem → Prop) (h : ∀ m, Sta 2 1 m → Q (.ref 2) m) : (f_L_fresh_5c16a1 [.ref 0] [o]).wp Q E := by
  rw [f_L_fresh_5c16a1, w_fn (by rfl), b_L_fresh_5c16a1]
  have hc : (eCut (eVar 0) none (some (eInt 63)) [some (.ref 0)] [o]) = .ok (.ref 1) ([o] ++ [.lst (cutL (ns.map MV.int) none (some 63))]) := by
    rcases ho with rfl | rfl <;> rfl
  have hcut : cutL (ns.map MV.int) none (some 63) = (ns.take 63).map MV.int := by
    unfold cutL clip
    simp only [List.length_map]
    rw [if_pos (by decide), List.drop_zero]
    have : min (63 : Int).toNat ns.length = ns.length := by omega
    rw [this, List.take_of_length_le (by simp), List.take_of_length_le hl]
  simp only [w_ret, w_lst, w_aL1, w_aL0, run_int, run_c, List.map_cons, List.map_nil, List.replicate, List.append_nil, hc, Res.wp_ok, hcut]
  refine ⟨by decide, h _ ⟨ns.take 63, 0, 0, false, rfl, rfl, by decide, by simp; omega, Int.le_refl _, Int.le_refl _⟩⟩
theorem cross {t u : Int} {q : Rat} (hu : u ≠ 0) (h : Rat.divInt t u = q) : q.num * u = t * (q.den : Int) := by
  rw [← Rat.num_divInt_den q] at h
  have := (Rat.divInt_eq_divInt_iff hu (den_ne q)).mp h
  exact this.symm
end Sp

namespace Sp
open PySem MP MF
section
variable {m : Mem} {n c : Nat} {Q : MV → Mem → Prop} {E : Str → Mem → Prop}
end
end Sp

namespace Sp
open PySem MP MF
local macro_rules
  | `(tactic| simp! only [$xs,*]) => `(tactic| try simp only [w_seq, w_set, w_par, w_asg, w_e1, w_e2, w_tup, w_lst, w_dct0, w_call, w_aL1, w_aL0, w_tE, w_tB, w_tAnd, w_tOr, w_tNot, w_eNot, w_eIf, w_ret, w_expr, w_if, w_pass, w_raise, w_gName, w_gSub, w_gTup, w_gAll1, w_gAll0, var_zero, var_succ, run_int, run_str, run_c, Res.wp_ok, List.map_cons, List.map_nil, List.replicate_succ, List.replicate_zero, List.cons_append, List.nil_append, List.append_nil, List.set_cons_zero, List.set_cons_succ, List.length_cons, List.length_nil, o_add, o_sub, o_neg, o_abs, o_lt, o_le, o_gt, o_ge, o_eqi, o_nei, o_bl, tr_bl, o_ix0, o_ix1, o_ix2, o_ix3, o_ix4, if_bl, if_bl', true_and, and_true, decide_true, decide_false, Bool.not_true, Bool.not_false, Bool.false_eq_true, if_true, if_false, $xs,*])
/-! ### sizes, once more -/
theorem sz_int {i : Int} {B : Nat} (h : i.natAbs < 2 ^ B) (hb : 1 ≤ B) : Sz B (i : Rat) := ⟨h, Nat.lt_of_lt_of_le (show 1 < 2 ^ 1 by decide) (Nat.pow_le_pow_right (by decide) hb)⟩
theorem sz_zero {B : Nat} (hb : 1 ≤ B) : Sz B 0 := sz_int (i := 0) (by simp; exact Nat.pow_pos (by decide)) hb
theorem fr_inj {a b : Rat} (h : fr a = fr b) : a = b := by
  unfold fr at h
  simp only [MV.tup.injEq, List.cons.injEq, MV.int.injEq, and_true] at h
  exact Rat.ext h.1 (by omega)
theorem num_zero {q : Rat} : q.num = 0 ↔ q = 0 := ⟨fun h => Rat.zero_of_num_zero h, fun h => by rw [h]; rfl⟩
where
  Rat.zero_of_num_zero {q : Rat} (h : q.num = 0) : q = 0 := Rat.num_eq_zero.mp h
/-! ### the law's own fractions -/
section
variable {a b : Rat} {B : Nat} (ha : Sz B a) (hb : Sz B b) (hB : B ≤ 4000) (m : Mem)
include ha hb hB
end
/-! ### sums, points -/
abbrev Mp := List (Str × Rat)
def gt (ps : Mp) (k : Str) : Rat := (lkA ps k).getD 0
def SzM (B : Nat) (ps : Mp) : Prop := ∀ p ∈ ps, Sz B p.2
theorem SzM.mono {B C : Nat} {ps : Mp} (h : SzM B ps) (hc : B ≤ C) : SzM C ps := fun p hp => (h p hp).mono hc
theorem SzM.nil {B : Nat} : SzM B [] := fun _ h => nomatch h
theorem SzM.gt {B : Nat} {ps : Mp} (h : SzM B ps) (hb : 1 ≤ B) (k : Str) : Sz B (gt ps k) := by
  unfold Sp.gt
  cases e : lkA ps k with
  | none => exact sz_zero hb
  | some v => exact h _ (lkA_mem e)
theorem SzM.set {B : Nat} {ps : Mp} (h : SzM B ps) {k : Str} {v : Rat} (hv : Sz B v) : SzM B (setA ps k v) := fun p hp => by
  rcases mem_setA hp with rfl | ⟨hp, _⟩
  · exact hv
  · exact h p hp
theorem SzM.filter {B : Nat} {ps : Mp} (h : SzM B ps) (f : Str × Rat → Bool) : SzM B (ps.filter f) := fun p hp => h p (List.mem_filter.mp hp).1
/-- no noughts, no key twice -/
structure Clean (ps : Mp) : Prop where
  nd : nd ps
  nz : ∀ p ∈ ps, p.2 ≠ 0
theorem Clean.nil : Clean [] := ⟨nd_nil, fun _ h => nomatch h⟩
theorem Clean.lk {ps : Mp} (h : Clean ps) (k : Str) : lkA ps k = if gt ps k = 0 then none else some (gt ps k) := by
  unfold gt
  cases e : lkA ps k with
  | none => simp
  | some v =>
    have := h.nz _ (lkA_mem e)
    simp only [Option.getD_some]
    rw [if_neg this]
abbrev toD (ps : Mp) : List (Key × MV) := toK fr ps
/-! ### == of fractions, of dicts of fractions -/
theorem eqF_fr (d : Nat) (m : Mem) (a b : Rat) : eqF (d + 2) m (fr a) (fr b) = some (decide (a = b)) := by
  unfold fr eqF
  simp only [eqL, eqF, kd, eqK, Bool.and_true]
  congr 1
  by_cases h : a = b
  · subst h; simp
  · simp only [h, decide_false, Bool.and_eq_false_iff, decide_eq_false_iff_not]
    by_cases h1 : a.num = b.num
    · exact .inr fun h2 => h (Rat.ext h1 (by omega))
    · exact .inl h1
theorem eqD_toK {β : Type} [DecidableEq β] (f : β → MV) (e : MV → MV → Option Bool) (he : ∀ x y, e (f x) (f y) = some (decide (x = y))) (qs : List (Str × β)) : ∀ ps : List (Str × β), eqD e (toK f qs) (toK f ps) = some (ps.all fun p => decide (lkA qs p.1 = some p.2))
  | [] => rfl
  | p :: ps => by
    have ih := eqD_toK f e he qs ps
    show eqD e (toK f qs) ((Sum.inr p.1, f p.2) :: toK f ps) = _
    unfold eqD
    rw [getK_toK, ih, List.all_cons]
    cases h : lkA qs p.1 with
    | none => simp
    | some v =>
      simp only [Option.map_some, he]
      have : decide (some v = some p.2) = decide (p.2 = v) := decide_eq_decide.mpr ⟨fun h => (Option.some.inj h).symm, fun h => by rw [h]⟩
      rw [this]
theorem eqF_dct {β : Type} [DecidableEq β] (f : β → MV) (d : Nat) {m : Mem} (he : ∀ x y, eqF d m (f x) (f y) = some (decide (x = y))) {a b : Nat} {l1 l2 : Bool} {ps qs : List (Str × β)} (n : nd ps) (h1 : m[a]? = some (.dct l1 (toK f ps))) (h2 : m[b]? = some (.dct l2 (toK f qs))) (hinj : a = b → ps = qs) : eqF (d + 1) m (.ref a) (.ref b) = some (eqM ps qs) := by
  unfold eqF
  simp only [h1, h2, toK_len]
  by_cases hab : a = b
  · rw [if_pos hab, hinj hab, eqM_refl (by rw [← hinj hab]; exact n)]
  · rw [if_neg hab]
    unfold eqM
    by_cases hl : ps.length = qs.length
    · rw [if_pos hl, eqD_toK f _ he]
      simp [hl]
    · rw [if_neg hl]
      simp [hl]
theorem toD_inj {ps qs : Mp} (h : toD ps = toD qs) : ps = qs := by
  induction ps generalizing qs with
  | nil => cases qs with
    | nil => rfl
    | cons q qs => cases h
  | cons p ps ih => cases qs with
    | nil => cases h
    | cons q qs =>
      unfold toD toK at h
      simp only [List.map_cons, List.cons.injEq, Prod.mk.injEq, Sum.inr.injEq] at h
      obtain ⟨⟨h1, h2⟩, h3⟩ := h
      rw [ih h3]
      congr 1
      exact Prod.ext h1 (fr_inj h2)
theorem eqF_sum (d : Nat) {m : Mem} {a b : Nat} {l1 l2 : Bool} {ps qs : Mp} (n : nd ps) (h1 : m[a]? = some (.dct l1 (toD ps))) (h2 : m[b]? = some (.dct l2 (toD qs))) : eqF (d + 3) m (.ref a) (.ref b) = some (eqM ps qs) :=
  eqF_dct fr (d + 2) (eqF_fr d m) n h1 h2 fun e => by
    subst e
    rw [h1] at h2
    injection h2 with h2
    injection h2 with h3 h4
    exact toD_inj h4
/-! ### the worth -/
section
variable {m : Mem} {a b : Nat} {lk lk' : Bool} {ps pt : Mp} {A B : Nat}
end
end Sp

namespace Sp
open PySem MP MF
local macro_rules
  | `(tactic| simp! only [$xs,*]) => `(tactic| try simp only [w_seq, w_set, w_par, w_asg, w_e1, w_e2, w_tup, w_lst, w_dct0, w_call, w_aL1, w_aL0, w_tE, w_tB, w_tAnd, w_tOr, w_tNot, w_eNot, w_eIf, w_ret, w_expr, w_if, w_pass, w_raise, w_gName, w_gSub, w_gTup, w_gAll1, w_gAll0, var_zero, var_succ, run_int, run_str, run_c, Res.wp_ok, List.map_cons, List.map_nil, List.replicate_succ, List.replicate_zero, List.cons_append, List.nil_append, List.append_nil, List.set_cons_zero, List.set_cons_succ, List.length_cons, List.length_nil, o_add, o_sub, o_neg, o_abs, o_lt, o_le, o_gt, o_ge, o_eqi, o_nei, o_bl, tr_bl, o_ix0, o_ix1, o_ix2, o_ix3, o_ix4, if_bl, if_bl', true_and, and_true, decide_true, decide_false, Bool.not_true, Bool.not_false, Bool.false_eq_true, if_true, if_false, $xs,*])
/-! ### the state, what stays beside it -/
theorem Oth.keep {n : Nat} {m m' : Mem} (h : Oth n m m') : Keep n m m' := fun k o e q => by rw [h.2 k e]; exact q
/-! ### names -/
/-- small letters -/
def letters : List Nat := (List.range 26).map (· + 97)
def IsName (s : Str) : Prop := 1 ≤ s.cps.toList.length ∧ s.cps.toList.length ≤ 6 ∧ ∀ c ∈ s.cps.toList, c ∈ letters
theorem str_len (s : Str) : s.length = s.cps.toList.length := by unfold Str.length; simp
instance (s : Str) : Decidable (IsName s) := by unfold IsName; infer_instance
theorem abc_list : ("abcdefghijklmnopqrstuvwxyz" : Str).cps.toList = letters := by decide +kernel
theorem abc_ix {i : Int} (h0 : 0 ≤ i) (h1 : i < 26) (m : Mem) : ∃ c, c ∈ letters ∧ letters[i.toNat]? = some c ∧ oIx (.str "abcdefghijklmnopqrstuvwxyz") (.int i) m = .ok (chr c) m := by
  have hl : i.toNat < letters.length := by show i.toNat < 26; omega
  refine ⟨letters[i.toNat], List.getElem_mem _, List.getElem?_eq_getElem hl, ?_⟩
  show (match atI ("abcdefghijklmnopqrstuvwxyz" : Str).cps.toList i with | some c => _ | none => _) = _
  rw [abc_list]
  unfold atI
  rw [if_pos h0, List.getElem?_eq_getElem hl]
  simp only
  rw [if_pos]
  rw [str_len, abc_list]
  decide
theorem str_ext {a b : Str} (h : a.cps.toList = b.cps.toList) : a = b := by
  cases a; cases b
  simp only [Str.mk.injEq]
  exact Array.toList_inj.mp h
theorem join_empty : ∀ cs : List Nat, (Str.join ("" : Str) (cs.map fun c => (⟨#[c]⟩ : Str))).cps.toList = cs
  | [] => rfl
  | [c] => rfl
  | c :: d :: r => by
    show ((⟨#[c]⟩ : Str) ++ "" ++ Str.join ("" : Str) ((d :: r).map fun c => (⟨#[c]⟩ : Str))).cps.toList = _
    have ih := join_empty (d :: r)
    have app : ∀ a b : Str, (a ++ b).cps.toList = a.cps.toList ++ b.cps.toList := fun a b => by
      show (a.cps ++ b.cps).toList = _
      simp
    rw [app, app, ih]
    rfl
theorem strsOf_chr : ∀ cs : List Nat, strsOf (cs.map chr) = some (cs.map fun c => (⟨#[c]⟩ : Str))
  | [] => rfl
  | c :: r => by
    rw [List.map_cons]
    show (strsOf (r.map chr)).map _ = _
    rw [strsOf_chr r]
    rfl
theorem sum_one : ∀ cs : List Nat, ((cs.map fun c => (⟨#[c]⟩ : Str)).map (·.length)).sum = cs.length
  | [] => rfl
  | c :: r => by
    rw [List.map_cons, List.map_cons, List.sum_cons, sum_one r, List.length_cons]
    show 1 + _ = _
    omega
theorem seqOf_lst {m : Mem} {n : Nat} {xs : List MV} (h : m[n]? = some (.lst xs)) : seqOf (.ref n) m = some xs := by
  unfold seqOf; simp only [h]
section
variable {m : Mem} {n c : Nat} {Q : MV → Mem → Prop} {E : Str → Mem → Prop}
end
theorem flat_strs (ns : List Str) : (ns.map MV.str).all flat = true := by
  rw [List.all_map]
  exact List.all_eq_true.mpr fun _ _ => rfl
theorem inFl_strs (s : Str) (ns : List Str) : inFl (.str s) (ns.map MV.str) = some (decide (s ∈ ns)) := by
  unfold inFl
  rw [if_pos ⟨rfl, flat_strs ns⟩, List.any_map]
  congr 1
  by_cases h : s ∈ ns
  · simp only [h, decide_true]
    exact List.any_eq_true.mpr ⟨s, h, by show (s == s) = true; exact beq_self_eq_true s⟩
  · simp only [h, decide_false]
    refine List.any_eq_false.mpr fun y hy e => h ?_
    have : y = s := by
      have e' : (y == s) = true := e
      exact eq_of_beq e'
    exact this ▸ hy
theorem o_inStrs {m : Mem} {k : Nat} {ns : List Str} (s : Str) (h : m[k]? = some (.lst (ns.map MV.str))) : oIn (.str s) (.ref k) m = .ok (.bl (decide (s ∈ ns))) m := by
  unfold oIn inV
  simp only [h, inFl_strs]
theorem len_of_sub {α : Type} [DecidableEq α] : ∀ {ps qs : List α}, ps.Nodup → (∀ p ∈ ps, p ∈ qs) → ps.length ≤ qs.length
  | [], qs, _, _ => Nat.zero_le _
  | p :: ps, qs, n, s => by
    have hp := s p List.mem_cons_self
    obtain ⟨n1, n2⟩ := List.nodup_cons.mp n
    have := len_of_sub (qs := qs.erase p) n2 fun x hx => (List.mem_erase_of_ne (fun e => n1 (by rw [← e]; exact hx))).mpr (s x (List.mem_cons_of_mem _ hx))
    rw [List.length_erase_of_mem hp] at this
    have : 0 < qs.length := List.length_pos_of_mem hp
    rw [List.length_cons]; omega
/-- the name that is taken at a turn -/
def cand (k : Nat) (j : Nat) : Str := repS ⟨#[letters.getD ((7 * j + k) % 26) 97]⟩ (1 + j / 26)
theorem repS_one (c n : Nat) : (repS ⟨#[c]⟩ n).cps.toList = List.replicate n c := by
  unfold repS
  show ((List.replicate n [c]).flatten) = _
  induction n with
  | zero => rfl
  | succ n ih => rw [List.replicate_succ, List.flatten_cons, ih]; rfl
theorem letters_get (i : Nat) (h : i < 26) : letters.getD i 97 = i + 97 := by
  unfold letters
  rw [List.getD_eq_getElem?_getD]
  simp [h]
theorem cand_name (k j : Nat) (h : j < 60) : IsName (cand k j) := by
  unfold IsName cand
  rw [repS_one]
  have h26 : (7 * j + k) % 26 < 26 := Nat.mod_lt _ (by decide)
  have hj : j / 26 < 3 := Nat.div_lt_of_lt_mul (by omega)
  refine ⟨by rw [List.length_replicate]; omega, by rw [List.length_replicate]; omega, fun c hc => ?_⟩
  rw [(List.mem_replicate.mp hc).2, letters_get _ h26]
  unfold letters
  exact List.mem_map.mpr ⟨_, List.mem_range.mpr h26, rfl⟩
theorem cand_inj {k i j : Nat} (hi : i < 26) (hj : j < 26) (h : cand k i = cand k j) : i = j := by
  have e := congrArg (fun s : Str => s.cps.toList) h
  simp only [cand, repS_one] at e
  rw [Nat.div_eq_of_lt hi, Nat.div_eq_of_lt hj] at e
  simp only [Nat.add_zero, List.replicate_one, List.cons.injEq, and_true] at e
  rw [letters_get _ (Nat.mod_lt _ (by decide)), letters_get _ (Nat.mod_lt _ (by decide))] at e
  omega
theorem cands_nodup (k : Nat) : ((List.range 26).map (cand k)).Nodup := by
  rw [List.nodup_iff_pairwise_ne, List.pairwise_map]
  refine List.Pairwise.imp_of_mem ?_ (List.nodup_range (n := 26))
  intro a b ha hb hab e
  exact hab (cand_inj (List.mem_range.mp ha) (List.mem_range.mp hb) e)
section
variable {m : Mem} {n c : Nat} {Q : MV → Mem → Prop} {E : Str → Mem → Prop}
end
end Sp

namespace Sp
open PySem MP MF
local macro_rules
  | `(tactic| simp! only [$xs,*]) => `(tactic| try simp only [w_seq, w_set, w_par, w_asg, w_e1, w_e2, w_tup, w_lst, w_dct0, w_call, w_aL1, w_aL0, w_tE, w_tB, w_tAnd, w_tOr, w_tNot, w_eNot, w_eIf, w_ret, w_expr, w_if, w_pass, w_raise, w_gName, w_gSub, w_gTup, w_gAll1, w_gAll0, var_zero, var_succ, run_int, run_str, run_c, Res.wp_ok, List.map_cons, List.map_nil, List.replicate_succ, List.replicate_zero, List.cons_append, List.nil_append, List.append_nil, List.set_cons_zero, List.set_cons_succ, List.length_cons, List.length_nil, o_add, o_sub, o_neg, o_abs, o_lt, o_le, o_gt, o_ge, o_eqi, o_nei, o_bl, tr_bl, o_ix0, o_ix1, o_ix2, o_ix3, o_ix4, if_bl, if_bl', true_and, and_true, decide_true, decide_false, Bool.not_true, Bool.not_false, Bool.false_eq_true, if_true, if_false, $xs,*])
  | `(tactic| simp! only [$xs,*] at $h:ident) => `(tactic| try simp only [w_seq, w_set, w_par, w_asg, w_e1, w_e2, w_tup, w_lst, w_dct0, w_call, w_aL1, w_aL0, w_tE, w_tB, w_tAnd, w_tOr, w_tNot, w_eNot, w_eIf, w_ret, w_expr, w_if, w_pass, w_raise, w_gName, w_gSub, w_gTup, w_gAll1, w_gAll0, var_zero, var_succ, run_int, run_str, run_c, Res.wp_ok, List.map_cons, List.map_nil, List.replicate_succ, List.replicate_zero, List.cons_append, List.nil_append, List.append_nil, List.set_cons_zero, List.set_cons_succ, List.length_cons, List.length_nil, o_add, o_sub, o_neg, o_abs, o_lt, o_le, o_gt, o_ge, o_eqi, o_nei, o_bl, tr_bl, o_ix0, o_ix1, o_ix2, o_ix3, o_ix4, if_bl, if_bl', true_and, and_true, decide_true, decide_false, Bool.not_true, Bool.not_false, Bool.false_eq_true, if_true, if_false, $xs,*] at $h:ident)
  | `(tactic| bv_omega) => `(tactic| repeat (with_reducible (first | refine s_ok ?_ | refine s_nx ?_ | refine s_rt ?_ | refine s_seq ?_ | refine s_set ?_ | refine s_var (by with_unfolding_all rfl) ?_ | refine s_int ?_ | refine s_str ?_ | refine s_c ?_ | refine s_e2 ?_ | refine s_e1 ?_ | refine s_call ?_ | refine s_aL1 ?_ | refine s_aL0 ?_ | refine s_tup ?_ | refine s_lst ?_ | refine s_line (by with_unfolding_all rfl) ?_ | refine s_if ?_ | refine s_tB ?_ | refine s_tE ?_ | refine s_bl ?_ | refine s_trb ?_ | refine s_tAnd ?_ | refine s_tOr ?_ | refine s_tNot ?_ | refine s_yes ?_ | refine s_eNot ?_ | refine s_eIf ?_ | refine s_eAnd ?_ | refine s_eOr ?_ | refine s_exbl ?_ | refine s_ret ?_ | refine s_expr ?_ | refine s_pass ?_ | refine s_asg ?_ | refine s_gName ?_ | refine s_gSub ?_ | refine s_gTup (by with_unfolding_all rfl) ?_ | refine s_gAll1 ?_ | refine s_gAll0 ?_ | refine s_par ?_ | refine s_dct0 ?_ | refine s_T ?_ | refine s_F ?_ | refine s_nT ?_ | refine s_nF ?_ | refine s_add ?_ | refine s_sub ?_ | refine s_lt ?_ | refine s_gt ?_ | refine s_le ?_ | refine s_ge ?_ | refine s_eqi ?_ | refine s_nei ?_ | refine s_eqs ?_ | refine s_nes ?_ | refine s_neg ?_ | refine s_abs ?_ | refine s_lenT ?_ | refine s_ixT (by with_unfolding_all rfl) ?_ | refine s_lenL (by assumption) ?_ | refine s_ixL (by assumption) (by with_unfolding_all rfl) ?_ | refine s_lenD (by assumption) ?_ | refine s_trL (by assumption) ?_ | refine s_cut ?_ | refine s_partN ?_ | refine s_partS ?_ | refine s_exint ?_ | refine s_cutT ?_ | refine s_cutL (by assumption) ?_ | refine s_eDct ?_ | refine s_pairs1 ?_ | refine s_pairs0 ?_ | refine s_eChain ?_ | refine s_eOrT ?_ | refine s_intB ?_ | refine s_retN ?_ | refine s_raise ?_ | refine s_ex ?_ | refine s_bk ?_ | refine s_ct ?_ | refine s_break ?_ | refine s_cont ?_ | refine s_join ?_ | refine s_exstr ?_ | refine s_get2 ?_ | refine s_append ?_ | refine s_isNon ?_ | refine s_notNon ?_ | refine s_max ?_ | refine s_min ?_ | refine s_par3 ?_ | refine s_mul (by first | assumption | exact mulOk_l (by decide) | exact mulOk_r (by decide)) ?_ | refine s_mod (by first | assumption | decide) ?_ | refine s_div (by first | assumption | exact ⟨by decide, divb_small (by decide)⟩) ?_ | refine s_yesI (by first | assumption | decide) ?_ | refine s_noI (by first | assumption | decide) ?_ | refine s_nyesI (by first | assumption | decide) ?_ | refine s_nnoI (by first | assumption | decide) ?_)))
theorem own_names2 : ∀ {i : Int}, 0 ≤ i → i < 12 → ∀ m, ∃ s : Str, IsName s ∧ oIx (.tup [.str "is", .str "most", .str "least", .str "below", .str "above", .str "tell", .str "open", .str "none", .str "first", .str "point", .str "mark", .str "x"]) (.int i) m = .ok (.str s) m := by
  intro i h0 h1 m
  have : i = 0 ∨ i = 1 ∨ i = 2 ∨ i = 3 ∨ i = 4 ∨ i = 5 ∨ i = 6 ∨ i = 7 ∨ i = 8 ∨ i = 9 ∨ i = 10 ∨ i = 11 := by omega
  rcases this with rfl | rfl | rfl | rfl | rfl | rfl | rfl | rfl | rfl | rfl | rfl | rfl
  · exact ⟨"is", by decide +kernel, rfl⟩
  · exact ⟨"most", by decide +kernel, rfl⟩
  · exact ⟨"least", by decide +kernel, rfl⟩
  · exact ⟨"below", by decide +kernel, rfl⟩
  · exact ⟨"above", by decide +kernel, rfl⟩
  · exact ⟨"tell", by decide +kernel, rfl⟩
  · exact ⟨"open", by decide +kernel, rfl⟩
  · exact ⟨"none", by decide +kernel, rfl⟩
  · exact ⟨"first", by decide +kernel, rfl⟩
  · exact ⟨"point", by decide +kernel, rfl⟩
  · exact ⟨"mark", by decide +kernel, rfl⟩
  · exact ⟨"x", by decide +kernel, rfl⟩
section
variable {m : Mem} {n c : Nat} {Q : MV → Mem → Prop} {E : Str → Mem → Prop}
theorem some_name2_s (S : Sta n c m) (h : ∀ s m', IsName s → Sta n c m' → Keep n m m' → Q (.str s) m') : (f_L_some_name_bb4a29 [.ref n] m).wp Q E := by
  have h26 : (26 : Int).natAbs < DIVB := divb_small (by decide)
  rw [f_L_some_name_bb4a29, w_fn (by rfl), b_L_some_name_bb4a29]
  simp! only []
  refine ⟨by decide, ?_⟩
  refine take_s S (by decide) (divb_small (by decide)) fun d1 m1 a1 b1 S1 o1 => ?_
  simp! only []
  unfold eJoin
  rw [run_str]
  simp only [Res.bind_ok]
  rw [Res.wp_bind]
  -- the word
  have comp : ∀ (P : MV → Mem → Prop) (F : Str → Mem → Prop), (∀ (k : Nat) (m' : Mem) (cs : List Nat), m'[k]? = some (.lst (cs.map chr)) → 1 ≤ cs.length → cs.length ≤ 6 → (∀ x ∈ cs, x ∈ letters) → Sta n c m' → Keep n m1 m' → P (.ref k) m') →
      (eComp [5] (iRange1 (e2 oAdd (eInt 1) (eCall f_L_take_f2d2c3 (aL [eVar 0, eInt 6])))) (gName 5) tYes (e2 oIx (eVar 1) (eCall f_L_take_f2d2c3 (aL [eVar 0, eInt 26]))) [some (.ref n), some (.str "abcdefghijklmnopqrstuvwxyz"), some (.tup [.str "is", .str "most", .str "least", .str "below", .str "above", .str "tell", .str "open", .str "none", .str "first", .str "point", .str "mark", .str "x"]), some (.int d1), none, none] m1).wp P F := fun P F hP => by
    unfold eComp iRange1
    rw [Res.wp_bind, Res.wp_bind]
    simp! only []
    refine take_s S1 (by decide) (divb_small (by decide)) fun d2 m2 a2 b2 S2 o2 => ?_
    simp! only []
    rw [if_pos (by omega)]
    simp only [Res.wp_ok]
    refine comp_inv (fun vs acc m' => ∃ cs : List Nat, acc = cs.map chr ∧ cs.length + vs.length = (1 + d2).toNat ∧ (∀ x ∈ cs, x ∈ letters) ∧ m'[m2.length]? = some (.lst acc) ∧ Sta n c m' ∧ Keep n m1 m') ⟨[], rfl, ?_, (fun _ h => nomatch h), new_at _ _, S2.push _, o2.keep.trans (Ext.app _ _).keep⟩ ?_ ?_ ?_
    · simp [rangeL]
    · rintro vs acc m' ⟨_, _, _, _, h, _, _⟩; exact ⟨trivial, h⟩
    · rintro v vs acc m' ⟨cs, rfl, hl, hcs, hm, S3, K3⟩
      simp! only [wipe, tYes]
      refine take_s S3 (by decide) (divb_small (by decide)) fun d3 m3 a3 b3 S4 o4 => ?_
      obtain ⟨ch, hc1, _, hc2⟩ := abc_ix a3 b3 m3
      simp! only [hc2]
      have hne : m2.length ≠ n := by have := S2.lt.1; omega
      have hnc : m2.length ≠ c := by have := S2.lt.2; omega
      have hm3 : m3[m2.length]? = some (.lst (cs.map chr)) := o4.keep _ _ hne hm
      refine ⟨hm3, ?_, cs ++ [ch], by simp, ?_, ?_, set_at _ hm3, S4.other _ hne hnc, ?_⟩
      · rw [List.length_map]; rw [List.length_cons] at hl; simp only [LINE]; omega
      · rw [List.length_append, List.length_cons] at *; simp only [List.length_nil]; omega
      · intro x hx
        rcases List.mem_append.mp hx with hx | hx
        · exact hcs x hx
        · simp only [List.mem_singleton] at hx; subst hx; exact hc1
      · have hlt : m1.length ≤ m2.length := by have := o2.1; omega
        exact (K3.trans o4.keep).setNew _ hlt
    · rintro acc m' ⟨cs, rfl, hl, hcs, hm, S3, K3⟩
      rw [List.length_nil] at hl
      exact hP _ _ cs hm (by omega) (by omega) hcs S3 K3
  refine comp _ _ fun k m2 cs hk hl1 hl6 hcs S2 K2 => ?_
  have hj : oJoin (.str "") (.ref k) m2 = .ok (.str ⟨cs.toArray⟩) m2 := by
    unfold oJoin
    rw [seqOf_lst hk]
    simp only [Option.bind_some, strsOf_chr]
    have e0 : ("" : Str).length = 0 := rfl
    rw [sum_one, e0, Nat.mul_zero, Nat.add_zero, if_pos (by simp only [LINE]; omega)]
    have : Str.join ("" : Str) (cs.map fun c => (⟨#[c]⟩ : Str)) = ⟨cs.toArray⟩ := str_ext (by rw [join_empty])
    rw [this]
  simp! only [hj]
  refine take_s S2 (by decide) (divb_small (by decide)) fun d3 m3 a3 b3 S3 o3 => ?_
  obtain ⟨own, ho1, ho2⟩ := own_names2 a3 b3 m3
  have hcut : eCut (eVar 4) none (some (eInt 1)) [some (.ref n), some (.str "abcdefghijklmnopqrstuvwxyz"), some (.tup [.str "is", .str "most", .str "least", .str "below", .str "above", .str "tell", .str "open", .str "none", .str "first", .str "point", .str "mark", .str "x"]), some (.int d1), some (.str ⟨cs.toArray⟩), none] m3 = .ok (.str ⟨(cs.take 1).toArray⟩) m3 := by
    show oCut (.str ⟨cs.toArray⟩) none (some 1) m3 = _
    unfold oCut
    simp only [str_len]
    rw [if_pos (by simp only [LINE]; omega)]
    have : cutL cs none (some 1) = cs.take 1 := cut_take cs (by decide)
    simp only [this]
  simp! only [ho2, hcut]
  have K3 := (o1.keep.trans K2).trans o3.keep
  have n1 : IsName ⟨cs.toArray⟩ := ⟨by simpa using hl1, by simpa using hl6, by simpa using hcs⟩
  have n2 : IsName ⟨(cs.take 1).toArray⟩ := ⟨by simp; omega, by simp; omega, by simpa using fun x hx => hcs x (List.mem_of_mem_take hx)⟩
  refine ⟨by decide, ?_⟩
  have : d1 = 0 ∨ d1 = 1 ∨ d1 = 2 ∨ d1 = 3 := by omega
  rcases this with rfl | rfl | rfl | rfl
  · exact h _ _ n1 S3 K3
  · exact h _ _ ho1 S3 K3
  · exact h _ _ n2 S3 K3
  · exact h _ _ n1 S3 K3
end
section
variable {m : Mem} {n c : Nat} {Q : MV → Mem → Prop} {E : Str → Mem → Prop}
theorem names2_s (S : Sta n c m) {many : Int} (h0 : 0 ≤ many) (h20 : many ≤ 20) (h : ∀ (a : Nat) (m' : Mem) (ns : List Str), m'[a]? = some (.lst (ns.map MV.str)) → ns.length = many.toNat → (∀ s ∈ ns, IsName s) → ns.Nodup → Sta n c m' → Keep n m m' → m.length ≤ a → Q (.ref a) m') : (f_L_names_83ad55 [.ref n, .int many] m).wp Q E := by
  have hn := S.lt.1
  have hc := S.lt.2
  rw [f_L_names_83ad55, w_fn (by rfl), b_L_names_83ad55]
  simp! only []
  refine ⟨by decide, ?_⟩
  rw [w_for (it_range (by rfl) ⟨by omega, by omega⟩) rfl]
  refine for_inv (fun vs fr m' => ∃ (ns : List Str) (x4 x5 x6 : Option MV), fr = [some (.ref n), some (.int many), some (.str "abcdefghijklmnopqrstuvwxyz"), some (.ref m.length), x4, x5, x6] ∧ vs = (rangeL 0 many.toNat).drop ns.length ∧ ns.length ≤ many.toNat ∧ m'[m.length]? = some (.lst (ns.map MV.str)) ∧ (∀ s ∈ ns, IsName s) ∧ ns.Nodup ∧ Sta n c m' ∧ Keep n m m')
    ⟨[], none, none, none, rfl, rfl, Nat.zero_le _, new_at _ _, (fun _ h => nomatch h), List.nodup_nil, S.push _, (Ext.app _ _).keep⟩ (fun _ _ _ _ => trivial) ?_ ?_
  · rintro v vs fr m' ⟨ns, x4, x5, x6, rfl, hv, hl, hm, hi, hd, S1, K1⟩
    have hlt : ns.length < many.toNat := by
      rcases Nat.lt_or_ge ns.length many.toNat with h | h
      · exact h
      · rw [List.drop_of_length_le (by simp [rangeL]; omega)] at hv; cases hv
    have hdr : (rangeL 0 many.toNat).drop ns.length = .int (ns.length : Int) :: (rangeL 0 many.toNat).drop (ns.length + 1) := by
      rw [List.drop_eq_getElem_cons (by simp [rangeL]; omega)]
      simp [rangeL]
    rw [hdr] at hv
    injection hv with hv1 hv2
    subst hv1
    simp! only []
    refine some_name2_s S1 fun nm m2 hnm S2 K2 => ?_
    have hm2 : m2[m.length]? = some (.lst (ns.map MV.str)) := K2 _ _ (by omega) hm
    -- the while
    refine while_inv (fun N fr m3 => ∃ (t : Nat) (z : Str), fr = [some (.ref n), some (.int many), some (.str "abcdefghijklmnopqrstuvwxyz"), some (.ref m.length), some (.int (ns.length : Int)), some (.str z), some (.int (t : Int))] ∧ m2 = m3 ∧ 60 - t = N ∧ t ≤ 60 ∧ IsName z ∧ (∀ j, j + 1 < t → cand ns.length j ∈ ns) ∧ (0 < t → z = cand ns.length (t - 1))) ?_ 60 ⟨0, nm, rfl, rfl, rfl, by omega, hnm, (fun j hj => absurd hj (by omega)), fun h => absurd h (by omega)⟩
    rintro N fr m3 ⟨t, z, rfl, rfl, hN, ht, hz, hj, hlast⟩
    have fin : z ∉ ns → (sExpr (eAppend (eVar 3) (eVar 5)) [some (.ref n), some (.int many), some (.str "abcdefghijklmnopqrstuvwxyz"), some (.ref m.length), some (.int (ns.length : Int)), some (.str z), some (.int (t : Int))] m2).wp
        { nx := fun fr m' => ∃ (ns : List Str) (x4 x5 x6 : Option MV), fr = [some (.ref n), some (.int many), some (.str "abcdefghijklmnopqrstuvwxyz"), some (.ref m.length), x4, x5, x6] ∧ vs = (rangeL 0 many.toNat).drop ns.length ∧ ns.length ≤ many.toNat ∧ m'[m.length]? = some (.lst (ns.map MV.str)) ∧ (∀ s ∈ ns, IsName s) ∧ ns.Nodup ∧ Sta n c m' ∧ Keep n m m', rt := Q, bk := fun _ _ => False, ct := fun _ _ => False, ex := fun c _ m' => E c m' } := fun hno => by
      rw [w_expr, w_append (n := m.length) (m1 := m2) (by rfl) hm2]
      simp! only [hm2]
      refine ⟨by rw [List.length_map]; simp only [LINE]; omega, ns ++ [z], some (.int (ns.length : Int)), some (.str z), some (.int (t : Int)), rfl, by rw [List.length_append]; exact hv2, by rw [List.length_append]; simp only [List.length_cons, List.length_nil]; omega, by rw [set_at _ hm2]; simp, ?_, ?_, S2.other _ (by omega) (by omega), (K1.trans K2).setNew _ (Nat.le_refl _)⟩
      · intro s hs
        rcases List.mem_append.mp hs with hs | hs
        · exact hi s hs
        · simp only [List.mem_singleton] at hs; subst hs; exact hz
      · refine List.nodup_append.mpr ⟨hd, by simp, ?_⟩
        intro a ha b hb e
        simp only [List.mem_singleton] at hb
        subst hb; subst e; exact hno ha
    have h60 : decide ((t : Int) < 60) = decide (t < 60) := decide_eq_decide.mpr ⟨fun h => by omega, fun h => by omega⟩
    simp! only [o_inStrs _ hm2, h60]
    by_cases hin : z ∈ ns
    · simp only [hin, decide_true, if_true]
      by_cases ht6 : t < 60
      · have hmod0 : (0 : Int) ≤ (7 * (t : Int) + (ns.length : Int)).fmod 26 := Int.fmod_nonneg_of_pos _ (by decide)
        have hmod1 : (7 * (t : Int) + (ns.length : Int)).fmod 26 < 26 := Int.fmod_lt_of_pos _ (by decide)
        obtain ⟨ch, hc1, hc2, hc3⟩ := abc_ix hmod0 hmod1 m2
        have hm7 : mulOk 7 (t : Int) := .inl (by decide)
        have hD : (26 : Int).natAbs < DIVB := divb_small (by decide)
        have hfd : (t : Int).fdiv 26 = ((t / 26 : Nat) : Int) := by rw [Int.fdiv_eq_ediv_of_nonneg _ (by decide)]; rfl
        have hrep : oMul (chr ch) (.int (1 + (t : Int).fdiv 26)) m2 = .ok (.str (cand ns.length t)) m2 := by
          unfold chr oMul
          rw [hfd]
          have hlt3 : t / 26 < 3 := Nat.div_lt_of_lt_mul (by omega)
          have e1 : (1 + ((t / 26 : Nat) : Int)).toNat = 1 + t / 26 := by omega
          have el : (⟨#[ch]⟩ : Str).length = 1 := rfl
          simp only [e1, el]
          rw [if_pos ⟨by omega, by omega, by simp only [LINE]; omega⟩]
          have : letters.getD ((7 * t + ns.length) % 26) 97 = ch := by
            have e2 : (7 * (t : Int) + (ns.length : Int)).fmod 26 = (((7 * t + ns.length) % 26 : Nat) : Int) := by
              rw [Int.fmod_eq_emod_of_nonneg _ (by decide)]; omega
            rw [e2, Int.toNat_natCast] at hc2
            rw [List.getD_eq_getElem?_getD, hc2]; rfl
          unfold cand
          rw [this]
        simp! only [ht6, o_mul, hm7, o_mod, ne_eq, show ¬ (26 : Int) = 0 by decide, not_false_eq_true, hc3, o_div, hD, and_self, hrep]
        rw [w_aug (a := (t : Int)) rfl]
        simp! only []
        refine ⟨60 - (t + 1), by omega, t + 1, cand ns.length t, by simp, by omega, by omega, cand_name _ _ ht6, fun j hjt => ?_, fun _ => rfl⟩
        rcases Nat.lt_or_ge (j + 1) t with h | h
        · exact hj j h
        · have : j = t - 1 := by omega
          rw [this, ← hlast (by omega)]; exact hin
      · exfalso
        have hall : ∀ j < 26, cand ns.length j ∈ ns := fun j hj26 => hj j (by omega)
        have := len_of_sub (cands_nodup ns.length) (qs := ns) (fun p hp => by
          obtain ⟨j, hj26, rfl⟩ := List.mem_map.mp hp
          exact hall j (List.mem_range.mp hj26))
        rw [List.length_map, List.length_range] at this
        omega
    · simp only [hin, decide_false, Bool.false_eq_true, if_false]
      have f2 := fin hin
      rw [w_expr] at f2
      exact f2
  · rintro fr m' ⟨ns, x4, x5, x6, rfl, hv, hl, hm, hi, hd, S1, K1⟩
    simp! only []
    refine h _ _ ns hm ?_ hi hd S1 K1 (Nat.le_refl _)
    have := congrArg List.length hv
    simp [rangeL] at this
    omega
end
end Sp

namespace Sp
open PySem MP MF
local macro_rules
  | `(tactic| simp! only [$xs,*]) => `(tactic| try simp only [w_seq, w_set, w_par, w_asg, w_e1, w_e2, w_tup, w_lst, w_dct0, w_call, w_aL1, w_aL0, w_tE, w_tB, w_tAnd, w_tOr, w_tNot, w_eNot, w_eIf, w_ret, w_expr, w_if, w_pass, w_raise, w_gName, w_gSub, w_gTup, w_gAll1, w_gAll0, var_zero, var_succ, run_int, run_str, run_c, Res.wp_ok, List.map_cons, List.map_nil, List.replicate_succ, List.replicate_zero, List.cons_append, List.nil_append, List.append_nil, List.set_cons_zero, List.set_cons_succ, List.length_cons, List.length_nil, o_add, o_sub, o_neg, o_abs, o_lt, o_le, o_gt, o_ge, o_eqi, o_nei, o_bl, tr_bl, o_ix0, o_ix1, o_ix2, o_ix3, o_ix4, if_bl, if_bl', true_and, and_true, decide_true, decide_false, Bool.not_true, Bool.not_false, Bool.false_eq_true, if_true, if_false, $xs,*])
  | `(tactic| simp! only [$xs,*] at $h:ident) => `(tactic| try simp only [w_seq, w_set, w_par, w_asg, w_e1, w_e2, w_tup, w_lst, w_dct0, w_call, w_aL1, w_aL0, w_tE, w_tB, w_tAnd, w_tOr, w_tNot, w_eNot, w_eIf, w_ret, w_expr, w_if, w_pass, w_raise, w_gName, w_gSub, w_gTup, w_gAll1, w_gAll0, var_zero, var_succ, run_int, run_str, run_c, Res.wp_ok, List.map_cons, List.map_nil, List.replicate_succ, List.replicate_zero, List.cons_append, List.nil_append, List.append_nil, List.set_cons_zero, List.set_cons_succ, List.length_cons, List.length_nil, o_add, o_sub, o_neg, o_abs, o_lt, o_le, o_gt, o_ge, o_eqi, o_nei, o_bl, tr_bl, o_ix0, o_ix1, o_ix2, o_ix3, o_ix4, if_bl, if_bl', true_and, and_true, decide_true, decide_false, Bool.not_true, Bool.not_false, Bool.false_eq_true, if_true, if_false, $xs,*] at $h:ident)
section
variable {m : Mem} {n c : Nat} {Q : MV → Mem → Prop} {E : Str → Mem → Prop}
theorem Clean.set {ps : Mp} (h : Clean ps) {k : Str} {q : Rat} (hq : q ≠ 0) : Clean (setA ps k q) := ⟨nd_setA h.nd k q, fun p hp => by
  rcases mem_setA hp with rfl | ⟨hp, _⟩
  · exact hq
  · exact h.nz p hp⟩
theorem put_sum {m : Mem} {a : Nat} {ps : Mp} {k : Str} {q : Rat} (h : m[a]? = some (.dct false (toD ps))) (hl : ps.length < LINE) : putIx (.ref a) (.str k) (fr q) m = some (m.set a (.dct false (toD (setA ps k q)))) := by
  rw [put_dct (k := .inr k) h rfl (by rw [toK_len]; exact hl), setK_toK]
end
end Sp

namespace Sp
open PySem MP MF
local macro_rules
  | `(tactic| simp! only [$xs,*]) => `(tactic| try simp only [w_seq, w_set, w_par, w_asg, w_e1, w_e2, w_tup, w_lst, w_dct0, w_call, w_aL1, w_aL0, w_tE, w_tB, w_tAnd, w_tOr, w_tNot, w_eNot, w_eIf, w_ret, w_expr, w_if, w_pass, w_raise, w_gName, w_gSub, w_gTup, w_gAll1, w_gAll0, var_zero, var_succ, run_int, run_str, run_c, Res.wp_ok, List.map_cons, List.map_nil, List.replicate_succ, List.replicate_zero, List.cons_append, List.nil_append, List.append_nil, List.set_cons_zero, List.set_cons_succ, List.length_cons, List.length_nil, o_add, o_sub, o_neg, o_abs, o_lt, o_le, o_gt, o_ge, o_eqi, o_nei, o_bl, tr_bl, o_ix0, o_ix1, o_ix2, o_ix3, o_ix4, if_bl, if_bl', true_and, and_true, decide_true, decide_false, Bool.not_true, Bool.not_false, Bool.false_eq_true, if_true, if_false, $xs,*])
  | `(tactic| simp! only [$xs,*] at $h:ident) => `(tactic| try simp only [w_seq, w_set, w_par, w_asg, w_e1, w_e2, w_tup, w_lst, w_dct0, w_call, w_aL1, w_aL0, w_tE, w_tB, w_tAnd, w_tOr, w_tNot, w_eNot, w_eIf, w_ret, w_expr, w_if, w_pass, w_raise, w_gName, w_gSub, w_gTup, w_gAll1, w_gAll0, var_zero, var_succ, run_int, run_str, run_c, Res.wp_ok, List.map_cons, List.map_nil, List.replicate_succ, List.replicate_zero, List.cons_append, List.nil_append, List.append_nil, List.set_cons_zero, List.set_cons_succ, List.length_cons, List.length_nil, o_add, o_sub, o_neg, o_abs, o_lt, o_le, o_gt, o_ge, o_eqi, o_nei, o_bl, tr_bl, o_ix0, o_ix1, o_ix2, o_ix3, o_ix4, if_bl, if_bl', true_and, and_true, decide_true, decide_false, Bool.not_true, Bool.not_false, Bool.false_eq_true, if_true, if_false, $xs,*] at $h:ident)
/-! ### dicts made of pairs -/
section
variable {m : Mem} {n c : Nat} {Q : MV → Mem → Prop} {E : Str → Mem → Prop}
end
/-! ### rows -/
def sorts : List Str := ["is", "most", "least", "below", "above"]
section
variable {m : Mem} {a p : Nat} {lk lk' : Bool} {ps pt : Mp} {A B : Nat} {s : Str} {b : Rat}
theorem set_new (m : Mem) (o u : MO) : (m ++ [o]).set m.length u = m ++ [u] := by simp
end
theorem p29 : (10 : Int) ^ 29 = 100000000000000000000000000000 := by decide
section
variable {m : Mem} {n c : Nat} {Q : MV → Mem → Prop} {E : Str → Mem → Prop}
end
end Sp

namespace Sp
open PySem MP MF
local macro_rules
  | `(tactic| simp! only [$xs,*]) => `(tactic| try simp only [w_seq, w_set, w_par, w_asg, w_e1, w_e2, w_tup, w_lst, w_dct0, w_call, w_aL1, w_aL0, w_tE, w_tB, w_tAnd, w_tOr, w_tNot, w_eNot, w_eIf, w_ret, w_expr, w_if, w_pass, w_raise, w_gName, w_gSub, w_gTup, w_gAll1, w_gAll0, var_zero, var_succ, run_int, run_str, run_c, Res.wp_ok, List.map_cons, List.map_nil, List.replicate_succ, List.replicate_zero, List.cons_append, List.nil_append, List.append_nil, List.set_cons_zero, List.set_cons_succ, List.length_cons, List.length_nil, o_add, o_sub, o_neg, o_abs, o_lt, o_le, o_gt, o_ge, o_eqi, o_nei, o_bl, tr_bl, o_ix0, o_ix1, o_ix2, o_ix3, o_ix4, if_bl, if_bl', true_and, and_true, decide_true, decide_false, Bool.not_true, Bool.not_false, Bool.false_eq_true, if_true, if_false, $xs,*])
  | `(tactic| simp! only [$xs,*] at $h:ident) => `(tactic| try simp only [w_seq, w_set, w_par, w_asg, w_e1, w_e2, w_tup, w_lst, w_dct0, w_call, w_aL1, w_aL0, w_tE, w_tB, w_tAnd, w_tOr, w_tNot, w_eNot, w_eIf, w_ret, w_expr, w_if, w_pass, w_raise, w_gName, w_gSub, w_gTup, w_gAll1, w_gAll0, var_zero, var_succ, run_int, run_str, run_c, Res.wp_ok, List.map_cons, List.map_nil, List.replicate_succ, List.replicate_zero, List.cons_append, List.nil_append, List.append_nil, List.set_cons_zero, List.set_cons_succ, List.length_cons, List.length_nil, o_add, o_sub, o_neg, o_abs, o_lt, o_le, o_gt, o_ge, o_eqi, o_nei, o_bl, tr_bl, o_ix0, o_ix1, o_ix2, o_ix3, o_ix4, if_bl, if_bl', true_and, and_true, decide_true, decide_false, Bool.not_true, Bool.not_false, Bool.false_eq_true, if_true, if_false, $xs,*] at $h:ident)
  | `(tactic| bv_omega) => `(tactic| repeat (with_reducible (first | refine s_ok ?_ | refine s_nx ?_ | refine s_rt ?_ | refine s_seq ?_ | refine s_set ?_ | refine s_var (by with_unfolding_all rfl) ?_ | refine s_int ?_ | refine s_str ?_ | refine s_c ?_ | refine s_e2 ?_ | refine s_e1 ?_ | refine s_call ?_ | refine s_aL1 ?_ | refine s_aL0 ?_ | refine s_tup ?_ | refine s_lst ?_ | refine s_line (by with_unfolding_all rfl) ?_ | refine s_if ?_ | refine s_tB ?_ | refine s_tE ?_ | refine s_bl ?_ | refine s_trb ?_ | refine s_tAnd ?_ | refine s_tOr ?_ | refine s_tNot ?_ | refine s_yes ?_ | refine s_eNot ?_ | refine s_eIf ?_ | refine s_eAnd ?_ | refine s_eOr ?_ | refine s_exbl ?_ | refine s_ret ?_ | refine s_expr ?_ | refine s_pass ?_ | refine s_asg ?_ | refine s_gName ?_ | refine s_gSub ?_ | refine s_gTup (by with_unfolding_all rfl) ?_ | refine s_gAll1 ?_ | refine s_gAll0 ?_ | refine s_par ?_ | refine s_dct0 ?_ | refine s_T ?_ | refine s_F ?_ | refine s_nT ?_ | refine s_nF ?_ | refine s_add ?_ | refine s_sub ?_ | refine s_lt ?_ | refine s_gt ?_ | refine s_le ?_ | refine s_ge ?_ | refine s_eqi ?_ | refine s_nei ?_ | refine s_eqs ?_ | refine s_nes ?_ | refine s_neg ?_ | refine s_abs ?_ | refine s_lenT ?_ | refine s_ixT (by with_unfolding_all rfl) ?_ | refine s_lenL (by assumption) ?_ | refine s_ixL (by assumption) (by with_unfolding_all rfl) ?_ | refine s_lenD (by assumption) ?_ | refine s_trL (by assumption) ?_ | refine s_cut ?_ | refine s_partN ?_ | refine s_partS ?_ | refine s_exint ?_ | refine s_cutT ?_ | refine s_cutL (by assumption) ?_ | refine s_eDct ?_ | refine s_pairs1 ?_ | refine s_pairs0 ?_ | refine s_eChain ?_ | refine s_eOrT ?_ | refine s_intB ?_ | refine s_retN ?_ | refine s_raise ?_ | refine s_ex ?_ | refine s_bk ?_ | refine s_ct ?_ | refine s_break ?_ | refine s_cont ?_ | refine s_join ?_ | refine s_exstr ?_ | refine s_get2 ?_ | refine s_append ?_ | refine s_isNon ?_ | refine s_notNon ?_ | refine s_max ?_ | refine s_min ?_ | refine s_par3 ?_ | refine s_mul (by first | assumption | exact mulOk_l (by decide) | exact mulOk_r (by decide)) ?_ | refine s_mod (by first | assumption | decide) ?_ | refine s_div (by first | assumption | exact ⟨by decide, divb_small (by decide)⟩) ?_ | refine s_yesI (by first | assumption | decide) ?_ | refine s_noI (by first | assumption | decide) ?_ | refine s_nyesI (by first | assumption | decide) ?_ | refine s_nnoI (by first | assumption | decide) ?_)))
/-! ### a list or a tuple -/
def SeqAt (m : Mem) (x : MV) (items : List MV) : Prop := x = .tup items ∨ ∃ a, x = .ref a ∧ m[a]? = some (.lst items)
theorem SeqAt.ext {m m' : Mem} {x : MV} {items : List MV} (h : SeqAt m x items) (e : Ext m m') : SeqAt m' x items := h.elim .inl fun ⟨a, h1, h2⟩ => .inr ⟨a, h1, e _ _ h2⟩
/-! ### sums of pairs, plainly -/
/-! ### comprehensions that change nothing -/
section
variable {β : Type} {m : Mem} {a k : Nat} {lk : Bool} {f : β → MV} {ps : List (Str × β)} {it : MI} {t : MT} {e : ME} {f0 : Fr} {Q : MV → Mem → Prop} {E : Str → Mem → Prop}
variable {items : List MV} {keep : Mem → Prop} {gg : MG} {own : List Nat}
end
/-! ### the law's looks at what is right -/
section
variable {m : Mem} {Q : MV → Mem → Prop} {E : Str → Mem → Prop}
end
end Sp

namespace Sp
open PySem MP MF
local macro_rules
  | `(tactic| simp! only [$xs,*]) => `(tactic| try simp only [w_seq, w_set, w_par, w_asg, w_e1, w_e2, w_tup, w_lst, w_dct0, w_call, w_aL1, w_aL0, w_tE, w_tB, w_tAnd, w_tOr, w_tNot, w_eNot, w_eIf, w_ret, w_expr, w_if, w_pass, w_raise, w_gName, w_gSub, w_gTup, w_gAll1, w_gAll0, var_zero, var_succ, run_int, run_str, run_c, Res.wp_ok, List.map_cons, List.map_nil, List.replicate_succ, List.replicate_zero, List.cons_append, List.nil_append, List.append_nil, List.set_cons_zero, List.set_cons_succ, List.length_cons, List.length_nil, o_add, o_sub, o_neg, o_abs, o_lt, o_le, o_gt, o_ge, o_eqi, o_nei, o_bl, tr_bl, o_ix0, o_ix1, o_ix2, o_ix3, o_ix4, if_bl, if_bl', true_and, and_true, decide_true, decide_false, Bool.not_true, Bool.not_false, Bool.false_eq_true, if_true, if_false, $xs,*])
  | `(tactic| simp! only [$xs,*] at $h:ident) => `(tactic| try simp only [w_seq, w_set, w_par, w_asg, w_e1, w_e2, w_tup, w_lst, w_dct0, w_call, w_aL1, w_aL0, w_tE, w_tB, w_tAnd, w_tOr, w_tNot, w_eNot, w_eIf, w_ret, w_expr, w_if, w_pass, w_raise, w_gName, w_gSub, w_gTup, w_gAll1, w_gAll0, var_zero, var_succ, run_int, run_str, run_c, Res.wp_ok, List.map_cons, List.map_nil, List.replicate_succ, List.replicate_zero, List.cons_append, List.nil_append, List.append_nil, List.set_cons_zero, List.set_cons_succ, List.length_cons, List.length_nil, o_add, o_sub, o_neg, o_abs, o_lt, o_le, o_gt, o_ge, o_eqi, o_nei, o_bl, tr_bl, o_ix0, o_ix1, o_ix2, o_ix3, o_ix4, if_bl, if_bl', true_and, and_true, decide_true, decide_false, Bool.not_true, Bool.not_false, Bool.false_eq_true, if_true, if_false, $xs,*] at $h:ident)
  | `(tactic| bv_omega) => `(tactic| repeat (with_reducible (first | refine s_ok ?_ | refine s_nx ?_ | refine s_rt ?_ | refine s_seq ?_ | refine s_set ?_ | refine s_var (by with_unfolding_all rfl) ?_ | refine s_int ?_ | refine s_str ?_ | refine s_c ?_ | refine s_e2 ?_ | refine s_e1 ?_ | refine s_call ?_ | refine s_aL1 ?_ | refine s_aL0 ?_ | refine s_tup ?_ | refine s_lst ?_ | refine s_line (by with_unfolding_all rfl) ?_ | refine s_if ?_ | refine s_tB ?_ | refine s_tE ?_ | refine s_bl ?_ | refine s_trb ?_ | refine s_tAnd ?_ | refine s_tOr ?_ | refine s_tNot ?_ | refine s_yes ?_ | refine s_eNot ?_ | refine s_eIf ?_ | refine s_eAnd ?_ | refine s_eOr ?_ | refine s_exbl ?_ | refine s_ret ?_ | refine s_expr ?_ | refine s_pass ?_ | refine s_asg ?_ | refine s_gName ?_ | refine s_gSub ?_ | refine s_gTup (by with_unfolding_all rfl) ?_ | refine s_gAll1 ?_ | refine s_gAll0 ?_ | refine s_par ?_ | refine s_dct0 ?_ | refine s_T ?_ | refine s_F ?_ | refine s_nT ?_ | refine s_nF ?_ | refine s_add ?_ | refine s_sub ?_ | refine s_lt ?_ | refine s_gt ?_ | refine s_le ?_ | refine s_ge ?_ | refine s_eqi ?_ | refine s_nei ?_ | refine s_eqs ?_ | refine s_nes ?_ | refine s_neg ?_ | refine s_abs ?_ | refine s_lenT ?_ | refine s_ixT (by with_unfolding_all rfl) ?_ | refine s_lenL (by assumption) ?_ | refine s_ixL (by assumption) (by with_unfolding_all rfl) ?_ | refine s_lenD (by assumption) ?_ | refine s_trL (by assumption) ?_ | refine s_cut ?_ | refine s_partN ?_ | refine s_partS ?_ | refine s_exint ?_ | refine s_cutT ?_ | refine s_cutL (by assumption) ?_ | refine s_eDct ?_ | refine s_pairs1 ?_ | refine s_pairs0 ?_ | refine s_eChain ?_ | refine s_eOrT ?_ | refine s_intB ?_ | refine s_retN ?_ | refine s_raise ?_ | refine s_ex ?_ | refine s_bk ?_ | refine s_ct ?_ | refine s_break ?_ | refine s_cont ?_ | refine s_join ?_ | refine s_exstr ?_ | refine s_get2 ?_ | refine s_append ?_ | refine s_isNon ?_ | refine s_notNon ?_ | refine s_max ?_ | refine s_min ?_ | refine s_par3 ?_ | refine s_mul (by first | assumption | exact mulOk_l (by decide) | exact mulOk_r (by decide)) ?_ | refine s_mod (by first | assumption | decide) ?_ | refine s_div (by first | assumption | exact ⟨by decide, divb_small (by decide)⟩) ?_ | refine s_yesI (by first | assumption | decide) ?_ | refine s_noI (by first | assumption | decide) ?_ | refine s_nyesI (by first | assumption | decide) ?_ | refine s_nnoI (by first | assumption | decide) ?_)))
section
variable {m : Mem} {a b : Nat} {lk lk' : Bool} {ps qs : Mp} {A B : Nat} {Q : MV → Mem → Prop} {E : Str → Mem → Prop}
end
end Sp

namespace Sp
open PySem MP MF
local macro_rules
  | `(tactic| simp! only [$xs,*]) => `(tactic| try simp only [w_seq, w_set, w_par, w_asg, w_e1, w_e2, w_tup, w_lst, w_dct0, w_call, w_aL1, w_aL0, w_tE, w_tB, w_tAnd, w_tOr, w_tNot, w_eNot, w_eIf, w_ret, w_expr, w_if, w_pass, w_raise, w_gName, w_gSub, w_gTup, w_gAll1, w_gAll0, var_zero, var_succ, run_int, run_str, run_c, Res.wp_ok, List.map_cons, List.map_nil, List.replicate_succ, List.replicate_zero, List.cons_append, List.nil_append, List.append_nil, List.set_cons_zero, List.set_cons_succ, List.length_cons, List.length_nil, o_add, o_sub, o_neg, o_abs, o_lt, o_le, o_gt, o_ge, o_eqi, o_nei, o_bl, tr_bl, o_ix0, o_ix1, o_ix2, o_ix3, o_ix4, if_bl, if_bl', true_and, and_true, decide_true, decide_false, Bool.not_true, Bool.not_false, Bool.false_eq_true, if_true, if_false, $xs,*])
  | `(tactic| simp! only [$xs,*] at $h:ident) => `(tactic| try simp only [w_seq, w_set, w_par, w_asg, w_e1, w_e2, w_tup, w_lst, w_dct0, w_call, w_aL1, w_aL0, w_tE, w_tB, w_tAnd, w_tOr, w_tNot, w_eNot, w_eIf, w_ret, w_expr, w_if, w_pass, w_raise, w_gName, w_gSub, w_gTup, w_gAll1, w_gAll0, var_zero, var_succ, run_int, run_str, run_c, Res.wp_ok, List.map_cons, List.map_nil, List.replicate_succ, List.replicate_zero, List.cons_append, List.nil_append, List.append_nil, List.set_cons_zero, List.set_cons_succ, List.length_cons, List.length_nil, o_add, o_sub, o_neg, o_abs, o_lt, o_le, o_gt, o_ge, o_eqi, o_nei, o_bl, tr_bl, o_ix0, o_ix1, o_ix2, o_ix3, o_ix4, if_bl, if_bl', true_and, and_true, decide_true, decide_false, Bool.not_true, Bool.not_false, Bool.false_eq_true, if_true, if_false, $xs,*] at $h:ident)
  | `(tactic| bv_omega) => `(tactic| repeat (with_reducible (first | refine s_ok ?_ | refine s_nx ?_ | refine s_rt ?_ | refine s_seq ?_ | refine s_set ?_ | refine s_var (by with_unfolding_all rfl) ?_ | refine s_int ?_ | refine s_str ?_ | refine s_c ?_ | refine s_e2 ?_ | refine s_e1 ?_ | refine s_call ?_ | refine s_aL1 ?_ | refine s_aL0 ?_ | refine s_tup ?_ | refine s_lst ?_ | refine s_line (by with_unfolding_all rfl) ?_ | refine s_if ?_ | refine s_tB ?_ | refine s_tE ?_ | refine s_bl ?_ | refine s_trb ?_ | refine s_tAnd ?_ | refine s_tOr ?_ | refine s_tNot ?_ | refine s_yes ?_ | refine s_eNot ?_ | refine s_eIf ?_ | refine s_eAnd ?_ | refine s_eOr ?_ | refine s_exbl ?_ | refine s_ret ?_ | refine s_expr ?_ | refine s_pass ?_ | refine s_asg ?_ | refine s_gName ?_ | refine s_gSub ?_ | refine s_gTup (by with_unfolding_all rfl) ?_ | refine s_gAll1 ?_ | refine s_gAll0 ?_ | refine s_par ?_ | refine s_dct0 ?_ | refine s_T ?_ | refine s_F ?_ | refine s_nT ?_ | refine s_nF ?_ | refine s_add ?_ | refine s_sub ?_ | refine s_lt ?_ | refine s_gt ?_ | refine s_le ?_ | refine s_ge ?_ | refine s_eqi ?_ | refine s_nei ?_ | refine s_eqs ?_ | refine s_nes ?_ | refine s_neg ?_ | refine s_abs ?_ | refine s_lenT ?_ | refine s_ixT (by with_unfolding_all rfl) ?_ | refine s_lenL (by assumption) ?_ | refine s_ixL (by assumption) (by with_unfolding_all rfl) ?_ | refine s_lenD (by assumption) ?_ | refine s_trL (by assumption) ?_ | refine s_cut ?_ | refine s_partN ?_ | refine s_partS ?_ | refine s_exint ?_ | refine s_cutT ?_ | refine s_cutL (by assumption) ?_ | refine s_eDct ?_ | refine s_pairs1 ?_ | refine s_pairs0 ?_ | refine s_eChain ?_ | refine s_eOrT ?_ | refine s_intB ?_ | refine s_retN ?_ | refine s_raise ?_ | refine s_ex ?_ | refine s_bk ?_ | refine s_ct ?_ | refine s_break ?_ | refine s_cont ?_ | refine s_join ?_ | refine s_exstr ?_ | refine s_get2 ?_ | refine s_append ?_ | refine s_isNon ?_ | refine s_notNon ?_ | refine s_max ?_ | refine s_min ?_ | refine s_par3 ?_ | refine s_mul (by first | assumption | exact mulOk_l (by decide) | exact mulOk_r (by decide)) ?_ | refine s_mod (by first | assumption | decide) ?_ | refine s_div (by first | assumption | exact ⟨by decide, divb_small (by decide)⟩) ?_ | refine s_yesI (by first | assumption | decide) ?_ | refine s_noI (by first | assumption | decide) ?_ | refine s_nyesI (by first | assumption | decide) ?_ | refine s_nnoI (by first | assumption | decide) ?_)))
/-! ### things of any kind -/
/-- all stands as it stood but for locks -/
def Lk (m m' : Mem) : Prop := ∀ (k : Nat) (o : MO), m[k]? = some o → m'[k]? = some o ∨ ∃ l l' kvs, o = .dct l kvs ∧ m'[k]? = some (.dct l' kvs)
theorem Ext.lk {m m' : Mem} (h : Ext m m') : Lk m m' := fun k o e => .inl (h k o e)
theorem Lk.refl (m : Mem) : Lk m m := (Ext.refl m).lk
theorem Lk.trans {m m1 m2 : Mem} (a : Lk m m1) (b : Lk m1 m2) : Lk m m2 := fun k o e => by
  rcases a k o e with h | ⟨l, l', kvs, rfl, h⟩
  · exact b k o h
  · rcases b k _ h with h2 | ⟨l2, l2', kvs2, e2, h2⟩
    · exact .inr ⟨l, l', kvs, rfl, h2⟩
    · cases e2; exact .inr ⟨l, l2', kvs, rfl, h2⟩
theorem Lk.dct {m m' : Mem} (h : Lk m m') {n : Nat} {l : Bool} {kvs : List (Key × MV)} (e : m[n]? = some (.dct l kvs)) : ∃ l', m'[n]? = some (.dct l' kvs) := by
  rcases h n _ e with h | ⟨l1, l2, kvs2, e2, h⟩
  · exact ⟨l, h⟩
  · cases e2; exact ⟨l2, h⟩
theorem Lk.lst {m m' : Mem} (h : Lk m m') {n : Nat} {xs : List MV} (e : m[n]? = some (.lst xs)) : m'[n]? = some (.lst xs) := by
  rcases h n _ e with h | ⟨l1, l2, kvs2, e2, h⟩
  · exact h
  · cases e2
/-- data of a depth -/
def Dat : Nat → Mem → MV → Prop
  | 0, _, _ => False
  | d + 1, m, x => match x with
    | .non => True
    | .bl _ => True
    | .int _ => True
    | .str s => s.length ≤ LINE
    | .tup xs => ∀ y ∈ xs, Dat d m y
    | .ref n => match m[n]? with
      | some (.lst xs) => xs.length ≤ LINE ∧ ∀ y ∈ xs, Dat d m y
      | some (.dct _ kvs) => (kvs.map (·.1)).Nodup ∧ kvs.length < LINE ∧ (∀ kv ∈ kvs, Dat d m kv.2) ∧ ∀ kv ∈ kvs, Dat d m (ofKey kv.1)
      | _ => False
    | .exn _ => False
theorem Dat.lk {m m' : Mem} (h : Lk m m') : ∀ {d : Nat} {x : MV}, Dat d m x → Dat d m' x
  | 0, _, hx => hx
  | d + 1, x, hx => by
    cases x with
    | tup xs => exact fun y hy => Dat.lk h (hx y hy)
    | ref n =>
      simp only [Dat] at hx ⊢
      cases hm : m[n]? with
      | none => rw [hm] at hx; exact hx.elim
      | some o => cases o with
        | lst xs =>
          rw [hm] at hx
          rw [h.lst hm]
          exact ⟨hx.1, fun y hy => Dat.lk h (hx.2 y hy)⟩
        | dct l kvs =>
          rw [hm] at hx
          obtain ⟨l', h'⟩ := h.dct hm
          rw [h']
          exact ⟨hx.1, hx.2.1, fun kv hkv => Dat.lk h (hx.2.2.1 kv hkv), fun kv hkv => Dat.lk h (hx.2.2.2 kv hkv)⟩
        | _ => rw [hm] at hx; exact hx.elim
    | _ => exact hx
theorem Dat.dct {m : Mem} {d n : Nat} {l : Bool} {kvs : List (Key × MV)} (h : Dat (d + 1) m (.ref n)) (e : m[n]? = some (.dct l kvs)) : (kvs.map (·.1)).Nodup ∧ kvs.length < LINE ∧ (∀ kv ∈ kvs, Dat d m kv.2) ∧ ∀ kv ∈ kvs, Dat d m (ofKey kv.1) := by
  simp only [Dat, e] at h; exact h
theorem Dat.lst {m : Mem} {d n : Nat} {xs : List MV} (h : Dat (d + 1) m (.ref n)) (e : m[n]? = some (.lst xs)) : xs.length ≤ LINE ∧ ∀ y ∈ xs, Dat d m y := by
  simp only [Dat, e] at h; exact h
theorem Dat.tup {m : Mem} {d : Nat} {xs : List MV} (h : Dat (d + 1) m (.tup xs)) : ∀ y ∈ xs, Dat d m y := h
theorem Dat.mkD {m : Mem} {d n : Nat} {l : Bool} {kvs : List (Key × MV)} (e : m[n]? = some (.dct l kvs)) (h : (kvs.map (·.1)).Nodup ∧ kvs.length < LINE ∧ (∀ kv ∈ kvs, Dat d m kv.2) ∧ ∀ kv ∈ kvs, Dat d m (ofKey kv.1)) : Dat (d + 1) m (.ref n) := by
  simp only [Dat, e]; exact h
theorem Dat.mkL {m : Mem} {d n : Nat} {xs : List MV} (e : m[n]? = some (.lst xs)) (h : xs.length ≤ LINE ∧ ∀ y ∈ xs, Dat d m y) : Dat (d + 1) m (.ref n) := by
  simp only [Dat, e]; exact h
theorem Dat.succ {m : Mem} : ∀ {d : Nat} {x : MV}, Dat d m x → Dat (d + 1) m x
  | d + 1, x, h => by
    cases x with
    | tup xs => exact fun y hy => Dat.succ (h.tup y hy)
    | ref n =>
      cases hm : m[n]? with
      | none => simp only [Dat, hm] at h
      | some o => cases o with
        | lst xs => exact Dat.mkL hm ⟨(h.lst hm).1, fun y hy => Dat.succ ((h.lst hm).2 y hy)⟩
        | dct l kvs =>
          obtain ⟨h1, h2, h3, h4⟩ := h.dct hm
          exact Dat.mkD hm ⟨h1, h2, fun kv hkv => Dat.succ (h3 kv hkv), fun kv hkv => Dat.succ (h4 kv hkv)⟩
        | _ => simp only [Dat, hm] at h
    | _ => exact h
theorem Dat.mono {m : Mem} {d e : Nat} {x : MV} (h : Dat d m x) (he : d ≤ e) : Dat e m x := by
  induction he with
  | refl => exact h
  | step _ ih => exact ih.succ
theorem Dat.fr {m : Mem} {d : Nat} (q : Rat) : Dat (d + 2) m (fr q) := by
  intro y hy
  simp only [List.mem_cons, List.not_mem_nil, or_false] at hy
  rcases hy with rfl | rfl <;> trivial
/-! what the looks tell -/
def nameB : MV → Bool
  | .str s => decide (IsName s)
  | _ => false
def fracB : MV → Bool
  | .tup [.int a, .int b] => decide (0 < b) && decide (Int.gcd a b = 1)
  | _ => false
def dctOf (m : Mem) : MV → Option (List (Key × MV))
  | .ref n => match m[n]? with
    | some (.dct _ kvs) => some kvs
    | _ => none
  | _ => none
def notNought : MV → Bool
  | .tup (.int a :: _) => decide (a ≠ 0)
  | _ => false
def sumB (m : Mem) (x : MV) : Bool := match dctOf m x with
  | some kvs => (kvs.all fun kv => nameB (ofKey kv.1) && fracB kv.2) && kvs.all fun kv => notNought kv.2
  | none => false
def sortB : MV → Bool
  | .str s => decide (s ∈ sorts)
  | _ => false
def rowB (m : Mem) : MV → Bool
  | .tup [a, b, c] => sumB m a && (sortB b && fracB c)
  | _ => false
theorem fracB_fr (q : Rat) : fracB (fr q) = true := by
  unfold fracB fr
  have hg : Int.gcd q.num (q.den : Int) = 1 := by
    have := q.reduced
    unfold Nat.Coprime at this
    unfold Int.gcd
    rw [Int.natAbs_natCast]
    exact this
  have hd : (0 : Int) < (q.den : Int) := by have := q.den_pos; omega
  simp only [hg, hd, decide_true, Bool.and_self]
/-! ### the looks, at anything -/
section
variable {m : Mem} {Q : MV → Mem → Prop} {E : Str → Mem → Prop}
end
end Sp

namespace Sp
open PySem MP MF
local macro_rules
  | `(tactic| simp! only [$xs,*]) => `(tactic| try simp only [w_seq, w_set, w_par, w_asg, w_e1, w_e2, w_tup, w_lst, w_dct0, w_call, w_aL1, w_aL0, w_tE, w_tB, w_tAnd, w_tOr, w_tNot, w_eNot, w_eIf, w_ret, w_expr, w_if, w_pass, w_raise, w_gName, w_gSub, w_gTup, w_gAll1, w_gAll0, var_zero, var_succ, run_int, run_str, run_c, Res.wp_ok, List.map_cons, List.map_nil, List.replicate_succ, List.replicate_zero, List.cons_append, List.nil_append, List.append_nil, List.set_cons_zero, List.set_cons_succ, List.length_cons, List.length_nil, o_add, o_sub, o_neg, o_abs, o_lt, o_le, o_gt, o_ge, o_eqi, o_nei, o_bl, tr_bl, o_ix0, o_ix1, o_ix2, o_ix3, o_ix4, if_bl, if_bl', true_and, and_true, decide_true, decide_false, Bool.not_true, Bool.not_false, Bool.false_eq_true, if_true, if_false, $xs,*])
  | `(tactic| simp! only [$xs,*] at $h:ident) => `(tactic| try simp only [w_seq, w_set, w_par, w_asg, w_e1, w_e2, w_tup, w_lst, w_dct0, w_call, w_aL1, w_aL0, w_tE, w_tB, w_tAnd, w_tOr, w_tNot, w_eNot, w_eIf, w_ret, w_expr, w_if, w_pass, w_raise, w_gName, w_gSub, w_gTup, w_gAll1, w_gAll0, var_zero, var_succ, run_int, run_str, run_c, Res.wp_ok, List.map_cons, List.map_nil, List.replicate_succ, List.replicate_zero, List.cons_append, List.nil_append, List.append_nil, List.set_cons_zero, List.set_cons_succ, List.length_cons, List.length_nil, o_add, o_sub, o_neg, o_abs, o_lt, o_le, o_gt, o_ge, o_eqi, o_nei, o_bl, tr_bl, o_ix0, o_ix1, o_ix2, o_ix3, o_ix4, if_bl, if_bl', true_and, and_true, decide_true, decide_false, Bool.not_true, Bool.not_false, Bool.false_eq_true, if_true, if_false, $xs,*] at $h:ident)
  | `(tactic| bv_omega) => `(tactic| repeat (with_reducible (first | refine s_ok ?_ | refine s_nx ?_ | refine s_rt ?_ | refine s_seq ?_ | refine s_set ?_ | refine s_var (by with_unfolding_all rfl) ?_ | refine s_int ?_ | refine s_str ?_ | refine s_c ?_ | refine s_e2 ?_ | refine s_e1 ?_ | refine s_call ?_ | refine s_aL1 ?_ | refine s_aL0 ?_ | refine s_tup ?_ | refine s_lst ?_ | refine s_line (by with_unfolding_all rfl) ?_ | refine s_if ?_ | refine s_tB ?_ | refine s_tE ?_ | refine s_bl ?_ | refine s_trb ?_ | refine s_tAnd ?_ | refine s_tOr ?_ | refine s_tNot ?_ | refine s_yes ?_ | refine s_eNot ?_ | refine s_eIf ?_ | refine s_eAnd ?_ | refine s_eOr ?_ | refine s_exbl ?_ | refine s_ret ?_ | refine s_expr ?_ | refine s_pass ?_ | refine s_asg ?_ | refine s_gName ?_ | refine s_gSub ?_ | refine s_gTup (by with_unfolding_all rfl) ?_ | refine s_gAll1 ?_ | refine s_gAll0 ?_ | refine s_par ?_ | refine s_dct0 ?_ | refine s_T ?_ | refine s_F ?_ | refine s_nT ?_ | refine s_nF ?_ | refine s_add ?_ | refine s_sub ?_ | refine s_lt ?_ | refine s_gt ?_ | refine s_le ?_ | refine s_ge ?_ | refine s_eqi ?_ | refine s_nei ?_ | refine s_eqs ?_ | refine s_nes ?_ | refine s_neg ?_ | refine s_abs ?_ | refine s_lenT ?_ | refine s_ixT (by with_unfolding_all rfl) ?_ | refine s_lenL (by assumption) ?_ | refine s_ixL (by assumption) (by with_unfolding_all rfl) ?_ | refine s_lenD (by assumption) ?_ | refine s_trL (by assumption) ?_ | refine s_cut ?_ | refine s_partN ?_ | refine s_partS ?_ | refine s_exint ?_ | refine s_cutT ?_ | refine s_cutL (by assumption) ?_ | refine s_eDct ?_ | refine s_pairs1 ?_ | refine s_pairs0 ?_ | refine s_eChain ?_ | refine s_eOrT ?_ | refine s_intB ?_ | refine s_retN ?_ | refine s_raise ?_ | refine s_ex ?_ | refine s_bk ?_ | refine s_ct ?_ | refine s_break ?_ | refine s_cont ?_ | refine s_join ?_ | refine s_exstr ?_ | refine s_get2 ?_ | refine s_append ?_ | refine s_isNon ?_ | refine s_notNon ?_ | refine s_max ?_ | refine s_min ?_ | refine s_par3 ?_ | refine s_mul (by first | assumption | exact mulOk_l (by decide) | exact mulOk_r (by decide)) ?_ | refine s_mod (by first | assumption | decide) ?_ | refine s_div (by first | assumption | exact ⟨by decide, divb_small (by decide)⟩) ?_ | refine s_yesI (by first | assumption | decide) ?_ | refine s_noI (by first | assumption | decide) ?_ | refine s_nyesI (by first | assumption | decide) ?_ | refine s_nnoI (by first | assumption | decide) ?_)))
section
variable {m : Mem} {a k : Nat} {lk : Bool} {kvs : List (Key × MV)} {it : MI} {t : MT} {e : ME} {f0 : Fr} {Q : MV → Mem → Prop} {E : Str → Mem → Prop}
end
section
variable {m : Mem} {Q : MV → Mem → Prop} {E : Str → Mem → Prop}
end
end Sp

namespace Sp
open PySem MP MF
local macro_rules
  | `(tactic| simp! only [$xs,*]) => `(tactic| try simp only [w_seq, w_set, w_par, w_asg, w_e1, w_e2, w_tup, w_lst, w_dct0, w_call, w_aL1, w_aL0, w_tE, w_tB, w_tAnd, w_tOr, w_tNot, w_eNot, w_eIf, w_ret, w_expr, w_if, w_pass, w_raise, w_gName, w_gSub, w_gTup, w_gAll1, w_gAll0, var_zero, var_succ, run_int, run_str, run_c, Res.wp_ok, List.map_cons, List.map_nil, List.replicate_succ, List.replicate_zero, List.cons_append, List.nil_append, List.append_nil, List.set_cons_zero, List.set_cons_succ, List.length_cons, List.length_nil, o_add, o_sub, o_neg, o_abs, o_lt, o_le, o_gt, o_ge, o_eqi, o_nei, o_bl, tr_bl, o_ix0, o_ix1, o_ix2, o_ix3, o_ix4, if_bl, if_bl', true_and, and_true, decide_true, decide_false, Bool.not_true, Bool.not_false, Bool.false_eq_true, if_true, if_false, $xs,*])
  | `(tactic| simp! only [$xs,*] at $h:ident) => `(tactic| try simp only [w_seq, w_set, w_par, w_asg, w_e1, w_e2, w_tup, w_lst, w_dct0, w_call, w_aL1, w_aL0, w_tE, w_tB, w_tAnd, w_tOr, w_tNot, w_eNot, w_eIf, w_ret, w_expr, w_if, w_pass, w_raise, w_gName, w_gSub, w_gTup, w_gAll1, w_gAll0, var_zero, var_succ, run_int, run_str, run_c, Res.wp_ok, List.map_cons, List.map_nil, List.replicate_succ, List.replicate_zero, List.cons_append, List.nil_append, List.append_nil, List.set_cons_zero, List.set_cons_succ, List.length_cons, List.length_nil, o_add, o_sub, o_neg, o_abs, o_lt, o_le, o_gt, o_ge, o_eqi, o_nei, o_bl, tr_bl, o_ix0, o_ix1, o_ix2, o_ix3, o_ix4, if_bl, if_bl', true_and, and_true, decide_true, decide_false, Bool.not_true, Bool.not_false, Bool.false_eq_true, if_true, if_false, $xs,*] at $h:ident)
  | `(tactic| bv_omega) => `(tactic| repeat (with_reducible (first | refine s_ok ?_ | refine s_nx ?_ | refine s_rt ?_ | refine s_seq ?_ | refine s_set ?_ | refine s_var (by with_unfolding_all rfl) ?_ | refine s_int ?_ | refine s_str ?_ | refine s_c ?_ | refine s_e2 ?_ | refine s_e1 ?_ | refine s_call ?_ | refine s_aL1 ?_ | refine s_aL0 ?_ | refine s_tup ?_ | refine s_lst ?_ | refine s_line (by with_unfolding_all rfl) ?_ | refine s_if ?_ | refine s_tB ?_ | refine s_tE ?_ | refine s_bl ?_ | refine s_trb ?_ | refine s_tAnd ?_ | refine s_tOr ?_ | refine s_tNot ?_ | refine s_yes ?_ | refine s_eNot ?_ | refine s_eIf ?_ | refine s_eAnd ?_ | refine s_eOr ?_ | refine s_exbl ?_ | refine s_ret ?_ | refine s_expr ?_ | refine s_pass ?_ | refine s_asg ?_ | refine s_gName ?_ | refine s_gSub ?_ | refine s_gTup (by with_unfolding_all rfl) ?_ | refine s_gAll1 ?_ | refine s_gAll0 ?_ | refine s_par ?_ | refine s_dct0 ?_ | refine s_T ?_ | refine s_F ?_ | refine s_nT ?_ | refine s_nF ?_ | refine s_add ?_ | refine s_sub ?_ | refine s_lt ?_ | refine s_gt ?_ | refine s_le ?_ | refine s_ge ?_ | refine s_eqi ?_ | refine s_nei ?_ | refine s_eqs ?_ | refine s_nes ?_ | refine s_neg ?_ | refine s_abs ?_ | refine s_lenT ?_ | refine s_ixT (by with_unfolding_all rfl) ?_ | refine s_lenL (by assumption) ?_ | refine s_ixL (by assumption) (by with_unfolding_all rfl) ?_ | refine s_lenD (by assumption) ?_ | refine s_trL (by assumption) ?_ | refine s_cut ?_ | refine s_partN ?_ | refine s_partS ?_ | refine s_exint ?_ | refine s_cutT ?_ | refine s_cutL (by assumption) ?_ | refine s_eDct ?_ | refine s_pairs1 ?_ | refine s_pairs0 ?_ | refine s_eChain ?_ | refine s_eOrT ?_ | refine s_intB ?_ | refine s_retN ?_ | refine s_raise ?_ | refine s_ex ?_ | refine s_bk ?_ | refine s_ct ?_ | refine s_break ?_ | refine s_cont ?_ | refine s_join ?_ | refine s_exstr ?_ | refine s_get2 ?_ | refine s_append ?_ | refine s_isNon ?_ | refine s_notNon ?_ | refine s_max ?_ | refine s_min ?_ | refine s_par3 ?_ | refine s_mul (by first | assumption | exact mulOk_l (by decide) | exact mulOk_r (by decide)) ?_ | refine s_mod (by first | assumption | decide) ?_ | refine s_div (by first | assumption | exact ⟨by decide, divb_small (by decide)⟩) ?_ | refine s_yesI (by first | assumption | decide) ?_ | refine s_noI (by first | assumption | decide) ?_ | refine s_nyesI (by first | assumption | decide) ?_ | refine s_nnoI (by first | assumption | decide) ?_)))
section
variable {m : Mem} {Q : MV → Mem → Prop} {E : Str → Mem → Prop}
end
theorem sumB_of {m : Mem} {a : Nat} {l : Bool} {ps : Mp} (h : m[a]? = some (.dct l (toD ps))) (cl : Clean ps) (hk : ∀ p ∈ ps, IsName p.1) : sumB m (.ref a) = true := by
  unfold sumB dctOf
  simp only [h]
  rw [Bool.and_eq_true]
  refine ⟨List.all_eq_true.mpr fun kv hkv => ?_, List.all_eq_true.mpr fun kv hkv => ?_⟩
  · obtain ⟨p, hp, rfl⟩ := List.mem_map.mp hkv
    rw [Bool.and_eq_true]
    exact ⟨by simpa [nameB, ofKey] using hk p hp, fracB_fr _⟩
  · obtain ⟨p, hp, rfl⟩ := List.mem_map.mp hkv
    have := cl.nz p hp
    have h0 : ¬ p.2.num = 0 := fun z => this (num_zero.mp z)
    simp [notNought, fr, h0]
end Sp

namespace Sp
open PySem MP MF
local macro_rules
  | `(tactic| simp! only [$xs,*]) => `(tactic| try simp only [w_seq, w_set, w_par, w_asg, w_e1, w_e2, w_tup, w_lst, w_dct0, w_call, w_aL1, w_aL0, w_tE, w_tB, w_tAnd, w_tOr, w_tNot, w_eNot, w_eIf, w_ret, w_expr, w_if, w_pass, w_raise, w_gName, w_gSub, w_gTup, w_gAll1, w_gAll0, var_zero, var_succ, run_int, run_str, run_c, Res.wp_ok, List.map_cons, List.map_nil, List.replicate_succ, List.replicate_zero, List.cons_append, List.nil_append, List.append_nil, List.set_cons_zero, List.set_cons_succ, List.length_cons, List.length_nil, o_add, o_sub, o_neg, o_abs, o_lt, o_le, o_gt, o_ge, o_eqi, o_nei, o_bl, tr_bl, o_ix0, o_ix1, o_ix2, o_ix3, o_ix4, if_bl, if_bl', true_and, and_true, decide_true, decide_false, Bool.not_true, Bool.not_false, Bool.false_eq_true, if_true, if_false, $xs,*])
  | `(tactic| simp! only [$xs,*] at $h:ident) => `(tactic| try simp only [w_seq, w_set, w_par, w_asg, w_e1, w_e2, w_tup, w_lst, w_dct0, w_call, w_aL1, w_aL0, w_tE, w_tB, w_tAnd, w_tOr, w_tNot, w_eNot, w_eIf, w_ret, w_expr, w_if, w_pass, w_raise, w_gName, w_gSub, w_gTup, w_gAll1, w_gAll0, var_zero, var_succ, run_int, run_str, run_c, Res.wp_ok, List.map_cons, List.map_nil, List.replicate_succ, List.replicate_zero, List.cons_append, List.nil_append, List.append_nil, List.set_cons_zero, List.set_cons_succ, List.length_cons, List.length_nil, o_add, o_sub, o_neg, o_abs, o_lt, o_le, o_gt, o_ge, o_eqi, o_nei, o_bl, tr_bl, o_ix0, o_ix1, o_ix2, o_ix3, o_ix4, if_bl, if_bl', true_and, and_true, decide_true, decide_false, Bool.not_true, Bool.not_false, Bool.false_eq_true, if_true, if_false, $xs,*] at $h:ident)
  | `(tactic| bv_omega) => `(tactic| repeat (with_reducible (first | refine s_ok ?_ | refine s_nx ?_ | refine s_rt ?_ | refine s_seq ?_ | refine s_set ?_ | refine s_var (by with_unfolding_all rfl) ?_ | refine s_int ?_ | refine s_str ?_ | refine s_c ?_ | refine s_e2 ?_ | refine s_e1 ?_ | refine s_call ?_ | refine s_aL1 ?_ | refine s_aL0 ?_ | refine s_tup ?_ | refine s_lst ?_ | refine s_line (by with_unfolding_all rfl) ?_ | refine s_if ?_ | refine s_tB ?_ | refine s_tE ?_ | refine s_bl ?_ | refine s_trb ?_ | refine s_tAnd ?_ | refine s_tOr ?_ | refine s_tNot ?_ | refine s_yes ?_ | refine s_eNot ?_ | refine s_eIf ?_ | refine s_eAnd ?_ | refine s_eOr ?_ | refine s_exbl ?_ | refine s_ret ?_ | refine s_expr ?_ | refine s_pass ?_ | refine s_asg ?_ | refine s_gName ?_ | refine s_gSub ?_ | refine s_gTup (by with_unfolding_all rfl) ?_ | refine s_gAll1 ?_ | refine s_gAll0 ?_ | refine s_par ?_ | refine s_dct0 ?_ | refine s_T ?_ | refine s_F ?_ | refine s_nT ?_ | refine s_nF ?_ | refine s_add ?_ | refine s_sub ?_ | refine s_lt ?_ | refine s_gt ?_ | refine s_le ?_ | refine s_ge ?_ | refine s_eqi ?_ | refine s_nei ?_ | refine s_eqs ?_ | refine s_nes ?_ | refine s_neg ?_ | refine s_abs ?_ | refine s_lenT ?_ | refine s_ixT (by with_unfolding_all rfl) ?_ | refine s_lenL (by assumption) ?_ | refine s_ixL (by assumption) (by with_unfolding_all rfl) ?_ | refine s_lenD (by assumption) ?_ | refine s_trL (by assumption) ?_ | refine s_cut ?_ | refine s_partN ?_ | refine s_partS ?_ | refine s_exint ?_ | refine s_cutT ?_ | refine s_cutL (by assumption) ?_ | refine s_eDct ?_ | refine s_pairs1 ?_ | refine s_pairs0 ?_ | refine s_eChain ?_ | refine s_eOrT ?_ | refine s_intB ?_ | refine s_retN ?_ | refine s_raise ?_ | refine s_ex ?_ | refine s_bk ?_ | refine s_ct ?_ | refine s_break ?_ | refine s_cont ?_ | refine s_join ?_ | refine s_exstr ?_ | refine s_get2 ?_ | refine s_append ?_ | refine s_isNon ?_ | refine s_notNon ?_ | refine s_max ?_ | refine s_min ?_ | refine s_par3 ?_ | refine s_mul (by first | assumption | exact mulOk_l (by decide) | exact mulOk_r (by decide)) ?_ | refine s_mod (by first | assumption | decide) ?_ | refine s_div (by first | assumption | exact ⟨by decide, divb_small (by decide)⟩) ?_ | refine s_yesI (by first | assumption | decide) ?_ | refine s_noI (by first | assumption | decide) ?_ | refine s_nyesI (by first | assumption | decide) ?_ | refine s_nnoI (by first | assumption | decide) ?_)))
/-! ### worths, plainly -/
end Sp

namespace Sp
open PySem MP MF
local macro_rules
  | `(tactic| simp! only [$xs,*]) => `(tactic| try simp only [w_seq, w_set, w_par, w_asg, w_e1, w_e2, w_tup, w_lst, w_dct0, w_call, w_aL1, w_aL0, w_tE, w_tB, w_tAnd, w_tOr, w_tNot, w_eNot, w_eIf, w_ret, w_expr, w_if, w_pass, w_raise, w_gName, w_gSub, w_gTup, w_gAll1, w_gAll0, var_zero, var_succ, run_int, run_str, run_c, Res.wp_ok, List.map_cons, List.map_nil, List.replicate_succ, List.replicate_zero, List.cons_append, List.nil_append, List.append_nil, List.set_cons_zero, List.set_cons_succ, List.length_cons, List.length_nil, o_add, o_sub, o_neg, o_abs, o_lt, o_le, o_gt, o_ge, o_eqi, o_nei, o_bl, tr_bl, o_ix0, o_ix1, o_ix2, o_ix3, o_ix4, if_bl, if_bl', true_and, and_true, decide_true, decide_false, Bool.not_true, Bool.not_false, Bool.false_eq_true, if_true, if_false, $xs,*])
  | `(tactic| simp! only [$xs,*] at $h:ident) => `(tactic| try simp only [w_seq, w_set, w_par, w_asg, w_e1, w_e2, w_tup, w_lst, w_dct0, w_call, w_aL1, w_aL0, w_tE, w_tB, w_tAnd, w_tOr, w_tNot, w_eNot, w_eIf, w_ret, w_expr, w_if, w_pass, w_raise, w_gName, w_gSub, w_gTup, w_gAll1, w_gAll0, var_zero, var_succ, run_int, run_str, run_c, Res.wp_ok, List.map_cons, List.map_nil, List.replicate_succ, List.replicate_zero, List.cons_append, List.nil_append, List.append_nil, List.set_cons_zero, List.set_cons_succ, List.length_cons, List.length_nil, o_add, o_sub, o_neg, o_abs, o_lt, o_le, o_gt, o_ge, o_eqi, o_nei, o_bl, tr_bl, o_ix0, o_ix1, o_ix2, o_ix3, o_ix4, if_bl, if_bl', true_and, and_true, decide_true, decide_false, Bool.not_true, Bool.not_false, Bool.false_eq_true, if_true, if_false, $xs,*] at $h:ident)
  | `(tactic| bv_omega) => `(tactic| repeat (with_reducible (first | refine s_ok ?_ | refine s_nx ?_ | refine s_rt ?_ | refine s_seq ?_ | refine s_set ?_ | refine s_var (by with_unfolding_all rfl) ?_ | refine s_int ?_ | refine s_str ?_ | refine s_c ?_ | refine s_e2 ?_ | refine s_e1 ?_ | refine s_call ?_ | refine s_aL1 ?_ | refine s_aL0 ?_ | refine s_tup ?_ | refine s_lst ?_ | refine s_line (by with_unfolding_all rfl) ?_ | refine s_if ?_ | refine s_tB ?_ | refine s_tE ?_ | refine s_bl ?_ | refine s_trb ?_ | refine s_tAnd ?_ | refine s_tOr ?_ | refine s_tNot ?_ | refine s_yes ?_ | refine s_eNot ?_ | refine s_eIf ?_ | refine s_eAnd ?_ | refine s_eOr ?_ | refine s_exbl ?_ | refine s_ret ?_ | refine s_expr ?_ | refine s_pass ?_ | refine s_asg ?_ | refine s_gName ?_ | refine s_gSub ?_ | refine s_gTup (by with_unfolding_all rfl) ?_ | refine s_gAll1 ?_ | refine s_gAll0 ?_ | refine s_par ?_ | refine s_dct0 ?_ | refine s_T ?_ | refine s_F ?_ | refine s_nT ?_ | refine s_nF ?_ | refine s_add ?_ | refine s_sub ?_ | refine s_lt ?_ | refine s_gt ?_ | refine s_le ?_ | refine s_ge ?_ | refine s_eqi ?_ | refine s_nei ?_ | refine s_eqs ?_ | refine s_nes ?_ | refine s_neg ?_ | refine s_abs ?_ | refine s_lenT ?_ | refine s_ixT (by with_unfolding_all rfl) ?_ | refine s_lenL (by assumption) ?_ | refine s_ixL (by assumption) (by with_unfolding_all rfl) ?_ | refine s_lenD (by assumption) ?_ | refine s_trL (by assumption) ?_ | refine s_cut ?_ | refine s_partN ?_ | refine s_partS ?_ | refine s_exint ?_ | refine s_cutT ?_ | refine s_cutL (by assumption) ?_ | refine s_eDct ?_ | refine s_pairs1 ?_ | refine s_pairs0 ?_ | refine s_eChain ?_ | refine s_eOrT ?_ | refine s_intB ?_ | refine s_retN ?_ | refine s_raise ?_ | refine s_ex ?_ | refine s_bk ?_ | refine s_ct ?_ | refine s_break ?_ | refine s_cont ?_ | refine s_join ?_ | refine s_exstr ?_ | refine s_get2 ?_ | refine s_append ?_ | refine s_isNon ?_ | refine s_notNon ?_ | refine s_max ?_ | refine s_min ?_ | refine s_par3 ?_ | refine s_mul (by first | assumption | exact mulOk_l (by decide) | exact mulOk_r (by decide)) ?_ | refine s_mod (by first | assumption | decide) ?_ | refine s_div (by first | assumption | exact ⟨by decide, divb_small (by decide)⟩) ?_ | refine s_yesI (by first | assumption | decide) ?_ | refine s_noI (by first | assumption | decide) ?_ | refine s_nyesI (by first | assumption | decide) ?_ | refine s_nnoI (by first | assumption | decide) ?_)))
section
variable {m : Mem} {n c : Nat} {Q : MV → Mem → Prop} {E : Str → Mem → Prop}
end
/-! ### row_put and what is due -/
section
variable {m : Mem} {n c : Nat} {Q : MV → Mem → Prop} {E : Str → Mem → Prop} {a o : Nat} {lk lk' : Bool} {ps qs : Mp} {s k : Str} {b x : Rat}
end
/-! ### a row, by the law's look -/
section
variable {m : Mem} {Q : MV → Mem → Prop} {E : Str → Mem → Prop}
theorem rowB_of {a : Nat} {l : Bool} {ps : Mp} {s : Str} {b : Rat} (h : m[a]? = some (.dct l (toD ps))) (cl : Clean ps) (hk : ∀ p ∈ ps, IsName p.1) (hs : s ∈ sorts) : rowB m (.tup [.ref a, .str s, fr b]) = true := by
  have : rowB m (.tup [.ref a, .str s, fr b]) = (sumB m (.ref a) && (sortB (.str s) && fracB (fr b))) := rfl
  rw [this, sumB_of h cl hk, fracB_fr]
  have : sortB (.str s) = decide (s ∈ sorts) := rfl
  rw [this]
  simp [hs]
end
end Sp

namespace Sp
open PySem MP MF
local macro_rules
  | `(tactic| simp! only [$xs,*]) => `(tactic| try simp only [w_seq, w_set, w_par, w_asg, w_e1, w_e2, w_tup, w_lst, w_dct0, w_call, w_aL1, w_aL0, w_tE, w_tB, w_tAnd, w_tOr, w_tNot, w_eNot, w_eIf, w_ret, w_expr, w_if, w_pass, w_raise, w_gName, w_gSub, w_gTup, w_gAll1, w_gAll0, var_zero, var_succ, run_int, run_str, run_c, Res.wp_ok, List.map_cons, List.map_nil, List.replicate_succ, List.replicate_zero, List.cons_append, List.nil_append, List.append_nil, List.set_cons_zero, List.set_cons_succ, List.length_cons, List.length_nil, o_add, o_sub, o_neg, o_abs, o_lt, o_le, o_gt, o_ge, o_eqi, o_nei, o_bl, tr_bl, o_ix0, o_ix1, o_ix2, o_ix3, o_ix4, if_bl, if_bl', true_and, and_true, decide_true, decide_false, Bool.not_true, Bool.not_false, Bool.false_eq_true, if_true, if_false, $xs,*])
  | `(tactic| simp! only [$xs,*] at $h:ident) => `(tactic| try simp only [w_seq, w_set, w_par, w_asg, w_e1, w_e2, w_tup, w_lst, w_dct0, w_call, w_aL1, w_aL0, w_tE, w_tB, w_tAnd, w_tOr, w_tNot, w_eNot, w_eIf, w_ret, w_expr, w_if, w_pass, w_raise, w_gName, w_gSub, w_gTup, w_gAll1, w_gAll0, var_zero, var_succ, run_int, run_str, run_c, Res.wp_ok, List.map_cons, List.map_nil, List.replicate_succ, List.replicate_zero, List.cons_append, List.nil_append, List.append_nil, List.set_cons_zero, List.set_cons_succ, List.length_cons, List.length_nil, o_add, o_sub, o_neg, o_abs, o_lt, o_le, o_gt, o_ge, o_eqi, o_nei, o_bl, tr_bl, o_ix0, o_ix1, o_ix2, o_ix3, o_ix4, if_bl, if_bl', true_and, and_true, decide_true, decide_false, Bool.not_true, Bool.not_false, Bool.false_eq_true, if_true, if_false, $xs,*] at $h:ident)
  | `(tactic| bv_omega) => `(tactic| repeat (with_reducible (first | refine s_ok ?_ | refine s_nx ?_ | refine s_rt ?_ | refine s_seq ?_ | refine s_set ?_ | refine s_var (by with_unfolding_all rfl) ?_ | refine s_int ?_ | refine s_str ?_ | refine s_c ?_ | refine s_e2 ?_ | refine s_e1 ?_ | refine s_call ?_ | refine s_aL1 ?_ | refine s_aL0 ?_ | refine s_tup ?_ | refine s_lst ?_ | refine s_line (by with_unfolding_all rfl) ?_ | refine s_if ?_ | refine s_tB ?_ | refine s_tE ?_ | refine s_bl ?_ | refine s_trb ?_ | refine s_tAnd ?_ | refine s_tOr ?_ | refine s_tNot ?_ | refine s_yes ?_ | refine s_eNot ?_ | refine s_eIf ?_ | refine s_eAnd ?_ | refine s_eOr ?_ | refine s_exbl ?_ | refine s_ret ?_ | refine s_expr ?_ | refine s_pass ?_ | refine s_asg ?_ | refine s_gName ?_ | refine s_gSub ?_ | refine s_gTup (by with_unfolding_all rfl) ?_ | refine s_gAll1 ?_ | refine s_gAll0 ?_ | refine s_par ?_ | refine s_dct0 ?_ | refine s_T ?_ | refine s_F ?_ | refine s_nT ?_ | refine s_nF ?_ | refine s_add ?_ | refine s_sub ?_ | refine s_lt ?_ | refine s_gt ?_ | refine s_le ?_ | refine s_ge ?_ | refine s_eqi ?_ | refine s_nei ?_ | refine s_eqs ?_ | refine s_nes ?_ | refine s_neg ?_ | refine s_abs ?_ | refine s_lenT ?_ | refine s_ixT (by with_unfolding_all rfl) ?_ | refine s_lenL (by assumption) ?_ | refine s_ixL (by assumption) (by with_unfolding_all rfl) ?_ | refine s_lenD (by assumption) ?_ | refine s_trL (by assumption) ?_ | refine s_cut ?_ | refine s_partN ?_ | refine s_partS ?_ | refine s_exint ?_ | refine s_cutT ?_ | refine s_cutL (by assumption) ?_ | refine s_eDct ?_ | refine s_pairs1 ?_ | refine s_pairs0 ?_ | refine s_eChain ?_ | refine s_eOrT ?_ | refine s_intB ?_ | refine s_retN ?_ | refine s_raise ?_ | refine s_ex ?_ | refine s_bk ?_ | refine s_ct ?_ | refine s_break ?_ | refine s_cont ?_ | refine s_join ?_ | refine s_exstr ?_ | refine s_get2 ?_ | refine s_append ?_ | refine s_isNon ?_ | refine s_notNon ?_ | refine s_max ?_ | refine s_min ?_ | refine s_par3 ?_ | refine s_mul (by first | assumption | exact mulOk_l (by decide) | exact mulOk_r (by decide)) ?_ | refine s_mod (by first | assumption | decide) ?_ | refine s_div (by first | assumption | exact ⟨by decide, divb_small (by decide)⟩) ?_ | refine s_yesI (by first | assumption | decide) ?_ | refine s_noI (by first | assumption | decide) ?_ | refine s_nyesI (by first | assumption | decide) ?_ | refine s_nnoI (by first | assumption | decide) ?_)))
section
variable {m m1 : Mem} {fr : Fr} {Q : MV → Mem → Prop} {QL : List MV → Mem → Prop} {QB : Bool → Mem → Prop} {E : Str → Mem → Prop} {P : SR.Post}
end
end Sp

namespace Sp
open PySem MP MF
local macro_rules
  | `(tactic| simp! only [$xs,*]) => `(tactic| try simp only [w_seq, w_set, w_par, w_asg, w_e1, w_e2, w_tup, w_lst, w_dct0, w_call, w_aL1, w_aL0, w_tE, w_tB, w_tAnd, w_tOr, w_tNot, w_eNot, w_eIf, w_ret, w_expr, w_if, w_pass, w_raise, w_gName, w_gSub, w_gTup, w_gAll1, w_gAll0, var_zero, var_succ, run_int, run_str, run_c, Res.wp_ok, List.map_cons, List.map_nil, List.replicate_succ, List.replicate_zero, List.cons_append, List.nil_append, List.append_nil, List.set_cons_zero, List.set_cons_succ, List.length_cons, List.length_nil, o_add, o_sub, o_neg, o_abs, o_lt, o_le, o_gt, o_ge, o_eqi, o_nei, o_bl, tr_bl, o_ix0, o_ix1, o_ix2, o_ix3, o_ix4, if_bl, if_bl', true_and, and_true, decide_true, decide_false, Bool.not_true, Bool.not_false, Bool.false_eq_true, if_true, if_false, $xs,*])
  | `(tactic| simp! only [$xs,*] at $h:ident) => `(tactic| try simp only [w_seq, w_set, w_par, w_asg, w_e1, w_e2, w_tup, w_lst, w_dct0, w_call, w_aL1, w_aL0, w_tE, w_tB, w_tAnd, w_tOr, w_tNot, w_eNot, w_eIf, w_ret, w_expr, w_if, w_pass, w_raise, w_gName, w_gSub, w_gTup, w_gAll1, w_gAll0, var_zero, var_succ, run_int, run_str, run_c, Res.wp_ok, List.map_cons, List.map_nil, List.replicate_succ, List.replicate_zero, List.cons_append, List.nil_append, List.append_nil, List.set_cons_zero, List.set_cons_succ, List.length_cons, List.length_nil, o_add, o_sub, o_neg, o_abs, o_lt, o_le, o_gt, o_ge, o_eqi, o_nei, o_bl, tr_bl, o_ix0, o_ix1, o_ix2, o_ix3, o_ix4, if_bl, if_bl', true_and, and_true, decide_true, decide_false, Bool.not_true, Bool.not_false, Bool.false_eq_true, if_true, if_false, $xs,*] at $h:ident)
  | `(tactic| bv_omega) => `(tactic| repeat (with_reducible (first | refine s_ok ?_ | refine s_nx ?_ | refine s_rt ?_ | refine s_seq ?_ | refine s_set ?_ | refine s_var (by with_unfolding_all rfl) ?_ | refine s_int ?_ | refine s_str ?_ | refine s_c ?_ | refine s_e2 ?_ | refine s_e1 ?_ | refine s_call ?_ | refine s_aL1 ?_ | refine s_aL0 ?_ | refine s_tup ?_ | refine s_lst ?_ | refine s_line (by with_unfolding_all rfl) ?_ | refine s_if ?_ | refine s_tB ?_ | refine s_tE ?_ | refine s_bl ?_ | refine s_trb ?_ | refine s_tAnd ?_ | refine s_tOr ?_ | refine s_tNot ?_ | refine s_yes ?_ | refine s_eNot ?_ | refine s_eIf ?_ | refine s_eAnd ?_ | refine s_eOr ?_ | refine s_exbl ?_ | refine s_ret ?_ | refine s_expr ?_ | refine s_pass ?_ | refine s_asg ?_ | refine s_gName ?_ | refine s_gSub ?_ | refine s_gTup (by with_unfolding_all rfl) ?_ | refine s_gAll1 ?_ | refine s_gAll0 ?_ | refine s_par ?_ | refine s_dct0 ?_ | refine s_T ?_ | refine s_F ?_ | refine s_nT ?_ | refine s_nF ?_ | refine s_add ?_ | refine s_sub ?_ | refine s_lt ?_ | refine s_gt ?_ | refine s_le ?_ | refine s_ge ?_ | refine s_eqi ?_ | refine s_nei ?_ | refine s_eqs ?_ | refine s_nes ?_ | refine s_neg ?_ | refine s_abs ?_ | refine s_lenT ?_ | refine s_ixT (by with_unfolding_all rfl) ?_ | refine s_lenL (by assumption) ?_ | refine s_ixL (by assumption) (by with_unfolding_all rfl) ?_ | refine s_lenD (by assumption) ?_ | refine s_trL (by assumption) ?_ | refine s_cut ?_ | refine s_partN ?_ | refine s_partS ?_ | refine s_exint ?_ | refine s_cutT ?_ | refine s_cutL (by assumption) ?_ | refine s_eDct ?_ | refine s_pairs1 ?_ | refine s_pairs0 ?_ | refine s_eChain ?_ | refine s_eOrT ?_ | refine s_intB ?_ | refine s_retN ?_ | refine s_raise ?_ | refine s_ex ?_ | refine s_bk ?_ | refine s_ct ?_ | refine s_break ?_ | refine s_cont ?_ | refine s_join ?_ | refine s_exstr ?_ | refine s_get2 ?_ | refine s_append ?_ | refine s_isNon ?_ | refine s_notNon ?_ | refine s_max ?_ | refine s_min ?_ | refine s_par3 ?_ | refine s_mul (by first | assumption | exact mulOk_l (by decide) | exact mulOk_r (by decide)) ?_ | refine s_mod (by first | assumption | decide) ?_ | refine s_div (by first | assumption | exact ⟨by decide, divb_small (by decide)⟩) ?_ | refine s_yesI (by first | assumption | decide) ?_ | refine s_noI (by first | assumption | decide) ?_ | refine s_nyesI (by first | assumption | decide) ?_ | refine s_nnoI (by first | assumption | decide) ?_)))
/-! SpSt: a store's state, as the program and as the law hold it; fields, methods. -/
section
variable {m m1 : Mem} {fr : Fr} {Q : MV → Mem → Prop} {E : Str → Mem → Prop} {C f g : Str} {n : Nat} {fs : List (Str × MV)} {v : MV}
end
/-! ### the state -/
structure Row where
  adr : Nat
  its : Mp
  sort : Str
  bound : Rat
abbrev Rows := List (Str × Row)
abbrev Marks := List (Str × Rows)
structure Whole where
  rows : Rows
  marks : Marks
  levels : List (Rows × Marks)
structure St where
  now : Whole
  past : List Whole
  undone : List Whole
def Row.p (r : Row) : MV := .tup [.ref r.adr, .str r.sort, Sp.fr r.bound]
def item (p : Str × Rat) : MV := .tup [.str p.1, Sp.fr p.2]
def Row.l (r : Row) : MV := .tup [.tup (sortT (r.its.map item)), .str r.sort, Sp.fr r.bound]
def pPair (p : Str × Row) : MV := .tup [.str p.1, p.2.p]
def pRows (rs : Rows) : MV := .tup (rs.map pPair)
def lPair (p : Str × Row) : MV := .tup [.str p.1, p.2.l]
def lRows (rs : Rows) : MV := .tup (rs.map lPair)
def pMark (p : Str × Rows) : MV := .tup [.str p.1, pRows p.2]
def pMarks (ms : Marks) : MV := .tup (ms.map pMark)
def lMark (p : Str × Rows) : MV := .tup [.str p.1, lRows p.2]
def lMarks (ms : Marks) : MV := .tup (sortT (ms.map lMark))
def pLev (q : Rows × Marks) : MV := .tup [pRows q.1, pMarks q.2]
def pLevs (ls : List (Rows × Marks)) : MV := .tup (ls.map pLev)
def lLev (q : Rows × Marks) : MV := .tup [lRows q.1, lMarks q.2]
def lLevs (ls : List (Rows × Marks)) : MV := .tup (ls.map lLev)
def pWhole (w : Whole) : MV := .tup [pRows w.rows, pMarks w.marks, pLevs w.levels]
def lWhole (w : Whole) : MV := .tup [lRows w.rows, lMarks w.marks, lLevs w.levels]
/-- dicts stay -/
def Kd (m m' : Mem) : Prop := ∀ (k : Nat) kvs, m[k]? = some (.dct false kvs) → m'[k]? = some (.dct false kvs)
theorem Kd.refl (m : Mem) : Kd m m := fun _ _ h => h
theorem Kd.trans {m m1 m2 : Mem} (a : Kd m m1) (b : Kd m1 m2) : Kd m m2 := fun k v h => b k v (a k v h)
theorem Ext.kd {m m' : Mem} (h : Ext m m') : Kd m m' := fun k v e => h k _ e
theorem Kd.keep {n : Nat} {m m' : Mem} {xs : List MV} (h : Keep n m m') (hn : m[n]? = some (.lst xs)) : Kd m m' := fun k kvs e => h k _ (fun z => by subst z; rw [hn] at e; cases e) e
structure RowOk (m : Mem) (r : Row) : Prop where
  at_ : m[r.adr]? = some (.dct false (toD r.its))
  cl : Clean r.its
  nm : ∀ p ∈ r.its, IsName p.1
  len : r.its.length < 1000
  so : r.sort ∈ sorts
theorem RowOk.kd {m m' : Mem} {r : Row} (h : RowOk m r) (k : Kd m m') : RowOk m' r := ⟨k _ _ h.at_, h.cl, h.nm, h.len, h.so⟩
structure RowsOk (m : Mem) (rs : Rows) : Prop where
  nd : nd rs
  len : rs.length ≤ 8
  ok : ∀ p ∈ rs, RowOk m p.2
  nms : ∀ p ∈ rs, IsName p.1
theorem RowsOk.kd {m m' : Mem} {rs : Rows} (h : RowsOk m rs) (k : Kd m m') : RowsOk m' rs := ⟨h.nd, h.len, fun p hp => (h.ok p hp).kd k, h.nms⟩
structure MarksOk (Ws : List Str) (m : Mem) (ms : Marks) : Prop where
  nd : nd ms
  inn : ∀ p ∈ ms, p.1 ∈ Ws
  ok : ∀ p ∈ ms, RowsOk m p.2
theorem MarksOk.kd {Ws : List Str} {m m' : Mem} {ms : Marks} (h : MarksOk Ws m ms) (k : Kd m m') : MarksOk Ws m' ms := ⟨h.nd, h.inn, fun p hp => (h.ok p hp).kd k⟩
theorem MarksOk.len {Ws : List Str} {m : Mem} {ms : Marks} (h : MarksOk Ws m ms) : ms.length ≤ Ws.length := by
  have := len_of_sub (ps := ms.map (·.1)) (qs := Ws) (by have := h.nd; unfold Sp.nd at this; exact this) (fun k hk => by obtain ⟨p, hp, rfl⟩ := List.mem_map.mp hk; exact h.inn p hp)
  rwa [List.length_map] at this
structure WholeOk (Ws : List Str) (N : Nat) (m : Mem) (w : Whole) : Prop where
  rows : RowsOk m w.rows
  marks : MarksOk Ws m w.marks
  llen : w.levels.length ≤ N
  levs : ∀ q ∈ w.levels, RowsOk m q.1 ∧ MarksOk Ws m q.2
theorem WholeOk.kd {Ws : List Str} {N : Nat} {m m' : Mem} {w : Whole} (h : WholeOk Ws N m w) (k : Kd m m') : WholeOk Ws N m' w := ⟨h.rows.kd k, h.marks.kd k, h.llen, fun q hq => ⟨(h.levs q hq).1.kd k, (h.levs q hq).2.kd k⟩⟩
theorem WholeOk.mono {Ws : List Str} {N N' : Nat} {m : Mem} {w : Whole} (h : WholeOk Ws N m w) (k : N ≤ N') : WholeOk Ws N' m w := ⟨h.rows, h.marks, Nat.le_trans h.llen k, h.levs⟩
structure StOk (Ws : List Str) (N : Nat) (m : Mem) (A : St) : Prop where
  now : WholeOk Ws N m A.now
  past : ∀ w ∈ A.past, WholeOk Ws N m w
  und : ∀ w ∈ A.undone, WholeOk Ws N m w
  len : A.past.length + A.undone.length ≤ N
theorem StOk.kd {Ws : List Str} {N : Nat} {m m' : Mem} {A : St} (h : StOk Ws N m A) (k : Kd m m') : StOk Ws N m' A := ⟨h.now.kd k, fun w hw => (h.past w hw).kd k, fun w hw => (h.und w hw).kd k, h.len⟩
theorem StOk.mono {Ws : List Str} {N N' : Nat} {m : Mem} {A : St} (h : StOk Ws N m A) (k : N ≤ N') : StOk Ws N' m A := ⟨h.now.mono k, fun w hw => (h.past w hw).mono k, fun w hw => (h.und w hw).mono k, Nat.le_trans h.len k⟩
/-! ### what a deed does -/
def St.change (A : St) (rs : Rows) (ms : Marks) (ls : List (Rows × Marks)) : St := ⟨⟨rs, ms, ls⟩, A.past ++ [A.now], []⟩
def withMark (ms : Marks) (w : Str) (rs : Rows) : Marks := delA ms w ++ [(w, rs)]
def addU (acc : List Str) (k : Str) : List Str := if k ∈ acc then acc else acc ++ [k]
def unk (kss : List (List Str)) : List Str := kss.foldl (fun acc ks => ks.foldl addU acc) []
def keysR (r : Row) : List Str := r.its.map (·.1)
def unkR (rs : Rows) : List Str := unk (rs.map fun p => keysR p.2)
/-- a deed, as far as a store goes; the row has its address in the store -/
inductive Dd where
  | tell (nm : Option Str) (r : Option Row)
  | take (nm : Option Str)
  | enter
  | leave
  | mark (w : Option Str)
  | back (w : Option Str)
  | undo
  | again
def act (A : St) : Dd → Str × St
  | .tell none _ => ("NoName", A)
  | .tell (some _) none => ("NoRow", A)
  | .tell (some s) (some r) =>
    if s ∈ A.now.rows.map (·.1) then ("Stands", A)
    else if 8 ≤ A.now.rows.length ∨ 4 < (unkR (A.now.rows ++ [(s, r)])).length then ("Full", A)
    else ("", A.change (A.now.rows ++ [(s, r)]) A.now.marks A.now.levels)
  | .take none => ("NoName", A)
  | .take (some s) => if s ∈ A.now.rows.map (·.1) then ("", A.change (delA A.now.rows s) A.now.marks A.now.levels) else ("NoName", A)
  | .enter => ("", A.change A.now.rows A.now.marks (A.now.levels ++ [(A.now.rows, A.now.marks)]))
  | .leave => match A.now.levels.getLast? with
    | none => ("NoLevel", A)
    | some q => ("", A.change q.1 q.2 A.now.levels.dropLast)
  | .mark none => ("NoName", A)
  | .mark (some w) => ("", A.change A.now.rows (withMark A.now.marks w A.now.rows) A.now.levels)
  | .back none => ("NoMark", A)
  | .back (some w) => match lkA A.now.marks w with
    | none => ("NoMark", A)
    | some rs => ("", A.change rs A.now.marks A.now.levels)
  | .undo => match A.past.getLast? with
    | none => ("NothingDone", A)
    | some w => ("", ⟨w, A.past.dropLast, A.undone ++ [A.now]⟩)
  | .again => match A.undone.getLast? with
    | none => ("NothingDone", A)
    | some w => ("", ⟨w, A.past ++ [A.now], A.undone.dropLast⟩)
end Sp

namespace Sp
open PySem MP MF
local macro_rules
  | `(tactic| simp! only [$xs,*]) => `(tactic| try simp only [w_seq, w_set, w_par, w_asg, w_e1, w_e2, w_tup, w_lst, w_dct0, w_call, w_aL1, w_aL0, w_tE, w_tB, w_tAnd, w_tOr, w_tNot, w_eNot, w_eIf, w_ret, w_expr, w_if, w_pass, w_raise, w_gName, w_gSub, w_gTup, w_gAll1, w_gAll0, var_zero, var_succ, run_int, run_str, run_c, Res.wp_ok, List.map_cons, List.map_nil, List.replicate_succ, List.replicate_zero, List.cons_append, List.nil_append, List.append_nil, List.set_cons_zero, List.set_cons_succ, List.length_cons, List.length_nil, o_add, o_sub, o_neg, o_abs, o_lt, o_le, o_gt, o_ge, o_eqi, o_nei, o_bl, tr_bl, o_ix0, o_ix1, o_ix2, o_ix3, o_ix4, if_bl, if_bl', true_and, and_true, decide_true, decide_false, Bool.not_true, Bool.not_false, Bool.false_eq_true, if_true, if_false, $xs,*])
  | `(tactic| simp! only [$xs,*] at $h:ident) => `(tactic| try simp only [w_seq, w_set, w_par, w_asg, w_e1, w_e2, w_tup, w_lst, w_dct0, w_call, w_aL1, w_aL0, w_tE, w_tB, w_tAnd, w_tOr, w_tNot, w_eNot, w_eIf, w_ret, w_expr, w_if, w_pass, w_raise, w_gName, w_gSub, w_gTup, w_gAll1, w_gAll0, var_zero, var_succ, run_int, run_str, run_c, Res.wp_ok, List.map_cons, List.map_nil, List.replicate_succ, List.replicate_zero, List.cons_append, List.nil_append, List.append_nil, List.set_cons_zero, List.set_cons_succ, List.length_cons, List.length_nil, o_add, o_sub, o_neg, o_abs, o_lt, o_le, o_gt, o_ge, o_eqi, o_nei, o_bl, tr_bl, o_ix0, o_ix1, o_ix2, o_ix3, o_ix4, if_bl, if_bl', true_and, and_true, decide_true, decide_false, Bool.not_true, Bool.not_false, Bool.false_eq_true, if_true, if_false, $xs,*] at $h:ident)
  | `(tactic| bv_omega) => `(tactic| repeat (with_reducible (first | refine s_ok ?_ | refine s_nx ?_ | refine s_rt ?_ | refine s_seq ?_ | refine s_set ?_ | refine s_var (by with_unfolding_all rfl) ?_ | refine s_int ?_ | refine s_str ?_ | refine s_c ?_ | refine s_e2 ?_ | refine s_e1 ?_ | refine s_call ?_ | refine s_aL1 ?_ | refine s_aL0 ?_ | refine s_tup ?_ | refine s_lst ?_ | refine s_line (by with_unfolding_all rfl) ?_ | refine s_if ?_ | refine s_tB ?_ | refine s_tE ?_ | refine s_bl ?_ | refine s_trb ?_ | refine s_tAnd ?_ | refine s_tOr ?_ | refine s_tNot ?_ | refine s_yes ?_ | refine s_eNot ?_ | refine s_eIf ?_ | refine s_eAnd ?_ | refine s_eOr ?_ | refine s_exbl ?_ | refine s_ret ?_ | refine s_expr ?_ | refine s_pass ?_ | refine s_asg ?_ | refine s_gName ?_ | refine s_gSub ?_ | refine s_gTup (by with_unfolding_all rfl) ?_ | refine s_gAll1 ?_ | refine s_gAll0 ?_ | refine s_par ?_ | refine s_dct0 ?_ | refine s_T ?_ | refine s_F ?_ | refine s_nT ?_ | refine s_nF ?_ | refine s_add ?_ | refine s_sub ?_ | refine s_lt ?_ | refine s_gt ?_ | refine s_le ?_ | refine s_ge ?_ | refine s_eqi ?_ | refine s_nei ?_ | refine s_eqs ?_ | refine s_nes ?_ | refine s_neg ?_ | refine s_abs ?_ | refine s_lenT ?_ | refine s_ixT (by with_unfolding_all rfl) ?_ | refine s_lenL (by assumption) ?_ | refine s_ixL (by assumption) (by with_unfolding_all rfl) ?_ | refine s_lenD (by assumption) ?_ | refine s_trL (by assumption) ?_ | refine s_cut ?_ | refine s_partN ?_ | refine s_partS ?_ | refine s_exint ?_ | refine s_cutT ?_ | refine s_cutL (by assumption) ?_ | refine s_eDct ?_ | refine s_pairs1 ?_ | refine s_pairs0 ?_ | refine s_eChain ?_ | refine s_eOrT ?_ | refine s_intB ?_ | refine s_retN ?_ | refine s_raise ?_ | refine s_ex ?_ | refine s_bk ?_ | refine s_ct ?_ | refine s_break ?_ | refine s_cont ?_ | refine s_join ?_ | refine s_exstr ?_ | refine s_get2 ?_ | refine s_append ?_ | refine s_isNon ?_ | refine s_notNon ?_ | refine s_max ?_ | refine s_min ?_ | refine s_par3 ?_ | refine s_mul (by first | assumption | exact mulOk_l (by decide) | exact mulOk_r (by decide)) ?_ | refine s_mod (by first | assumption | decide) ?_ | refine s_div (by first | assumption | exact ⟨by decide, divb_small (by decide)⟩) ?_ | refine s_yesI (by first | assumption | decide) ?_ | refine s_noI (by first | assumption | decide) ?_ | refine s_nyesI (by first | assumption | decide) ?_ | refine s_nnoI (by first | assumption | decide) ?_)))
/-! SpSu: what the program's store does. -/
abbrev f5 (x y z u v : MV) : List (Str × MV) := [("standing", x), ("kept", y), ("levels", z), ("past", u), ("undone", v)]
structure SR (m : Mem) (s : Nat) (A : St) (pp pu : Nat) : Prop where
  at_ : m[s]? = some (.ins "Store" (f5 (pRows A.now.rows) (pMarks A.now.marks) (pLevs A.now.levels) (.ref pp) (.ref pu)))
  past : m[pp]? = some (.lst (A.past.map pWhole))
  und : m[pu]? = some (.lst (A.undone.map pWhole))
  ne : pp ≠ pu
/-- all but some places stay -/
def Kx (D : List Nat) (m m' : Mem) : Prop := ∀ (k : Nat) (o : MO), m[k]? = some o → k ∉ D → m'[k]? = some o
theorem Kx.refl (D : List Nat) (m : Mem) : Kx D m m := fun _ _ h _ => h
theorem Kx.trans {D : List Nat} {m m1 m2 : Mem} (a : Kx D m m1) (b : Kx D m1 m2) : Kx D m m2 := fun k o h n => b k o (a k o h n) n
theorem Ext.kx {m m' : Mem} (D : List Nat) (h : Ext m m') : Kx D m m' := fun k o e _ => h k o e
theorem Kx.set {D : List Nat} {m : Mem} {n : Nat} (hn : n ∈ D) (o : MO) : Kx D m (m.set n o) := fun k u h hk => set_ne _ (fun e => hk (e ▸ hn)) h
theorem Kx.len {D : List Nat} {m m' : Mem} (h : Kx D m m') (hD : ∀ d ∈ D, d < m'.length) : m.length ≤ m'.length := by
  by_cases z : m.length = 0
  · omega
  · have h1 : m.length - 1 < m.length := by omega
    by_cases hk : (m.length - 1) ∈ D
    · have := hD _ hk; omega
    · have := lt_of (h (m.length - 1) _ (List.getElem?_eq_getElem h1) hk)
      omega
theorem SR.ne1 {m : Mem} {s pp pu : Nat} {A : St} (R : SR m s A pp pu) : s ≠ pp := fun e => by
  have h := R.at_
  rw [e, R.past] at h
  cases h
theorem SR.ne2 {m : Mem} {s pp pu : Nat} {A : St} (R : SR m s A pp pu) : s ≠ pu := fun e => by
  have h := R.at_
  rw [e, R.und] at h
  cases h
theorem SR.keep {m m' : Mem} {s pp pu : Nat} {A : St} (R : SR m s A pp pu) {D : List Nat} (k : Kx D m m') (h1 : s ∉ D) (h2 : pp ∉ D) (h3 : pu ∉ D) : SR m' s A pp pu := ⟨k _ _ R.at_ h1, k _ _ R.past h2, k _ _ R.und h3, R.ne⟩
theorem SR.ext {m m' : Mem} {s pp pu : Nat} {A : St} (R : SR m s A pp pu) (k : Ext m m') : SR m' s A pp pu := ⟨k _ _ R.at_, k _ _ R.past, k _ _ R.und, R.ne⟩
theorem SR.kd {m m' : Mem} {s pp pu : Nat} {A : St} (R : SR m s A pp pu) (k : Kx [s, pp, pu] m m') : Kd m m' := fun j kvs h => by
  refine k _ _ h fun hj => ?_
  have h1 := R.at_
  have h2 := R.past
  have h3 := R.und
  rcases List.mem_cons.mp hj with rfl | hj
  · rw [h] at h1; cases h1
  rcases List.mem_cons.mp hj with rfl | hj
  · rw [h] at h2; cases h2
  rcases List.mem_cons.mp hj with rfl | hj
  · rw [h] at h3; cases h3
  · cases hj
section
variable {m : Mem} {s pp pu : Nat} {A : St} {Q : MV → Mem → Prop} {E : Str → Mem → Prop}
end
end Sp

namespace Sp
open PySem MP MF
local macro_rules
  | `(tactic| simp! only [$xs,*]) => `(tactic| try simp only [w_seq, w_set, w_par, w_asg, w_e1, w_e2, w_tup, w_lst, w_dct0, w_call, w_aL1, w_aL0, w_tE, w_tB, w_tAnd, w_tOr, w_tNot, w_eNot, w_eIf, w_ret, w_expr, w_if, w_pass, w_raise, w_gName, w_gSub, w_gTup, w_gAll1, w_gAll0, var_zero, var_succ, run_int, run_str, run_c, Res.wp_ok, List.map_cons, List.map_nil, List.replicate_succ, List.replicate_zero, List.cons_append, List.nil_append, List.append_nil, List.set_cons_zero, List.set_cons_succ, List.length_cons, List.length_nil, o_add, o_sub, o_neg, o_abs, o_lt, o_le, o_gt, o_ge, o_eqi, o_nei, o_bl, tr_bl, o_ix0, o_ix1, o_ix2, o_ix3, o_ix4, if_bl, if_bl', true_and, and_true, decide_true, decide_false, Bool.not_true, Bool.not_false, Bool.false_eq_true, if_true, if_false, $xs,*])
  | `(tactic| simp! only [$xs,*] at $h:ident) => `(tactic| try simp only [w_seq, w_set, w_par, w_asg, w_e1, w_e2, w_tup, w_lst, w_dct0, w_call, w_aL1, w_aL0, w_tE, w_tB, w_tAnd, w_tOr, w_tNot, w_eNot, w_eIf, w_ret, w_expr, w_if, w_pass, w_raise, w_gName, w_gSub, w_gTup, w_gAll1, w_gAll0, var_zero, var_succ, run_int, run_str, run_c, Res.wp_ok, List.map_cons, List.map_nil, List.replicate_succ, List.replicate_zero, List.cons_append, List.nil_append, List.append_nil, List.set_cons_zero, List.set_cons_succ, List.length_cons, List.length_nil, o_add, o_sub, o_neg, o_abs, o_lt, o_le, o_gt, o_ge, o_eqi, o_nei, o_bl, tr_bl, o_ix0, o_ix1, o_ix2, o_ix3, o_ix4, if_bl, if_bl', true_and, and_true, decide_true, decide_false, Bool.not_true, Bool.not_false, Bool.false_eq_true, if_true, if_false, $xs,*] at $h:ident)
  | `(tactic| bv_omega) => `(tactic| repeat (with_reducible (first | refine s_ok ?_ | refine s_nx ?_ | refine s_rt ?_ | refine s_seq ?_ | refine s_set ?_ | refine s_var (by with_unfolding_all rfl) ?_ | refine s_int ?_ | refine s_str ?_ | refine s_c ?_ | refine s_e2 ?_ | refine s_e1 ?_ | refine s_call ?_ | refine s_aL1 ?_ | refine s_aL0 ?_ | refine s_tup ?_ | refine s_lst ?_ | refine s_line (by with_unfolding_all rfl) ?_ | refine s_if ?_ | refine s_tB ?_ | refine s_tE ?_ | refine s_bl ?_ | refine s_trb ?_ | refine s_tAnd ?_ | refine s_tOr ?_ | refine s_tNot ?_ | refine s_yes ?_ | refine s_eNot ?_ | refine s_eIf ?_ | refine s_eAnd ?_ | refine s_eOr ?_ | refine s_exbl ?_ | refine s_ret ?_ | refine s_expr ?_ | refine s_pass ?_ | refine s_asg ?_ | refine s_gName ?_ | refine s_gSub ?_ | refine s_gTup (by with_unfolding_all rfl) ?_ | refine s_gAll1 ?_ | refine s_gAll0 ?_ | refine s_par ?_ | refine s_dct0 ?_ | refine s_T ?_ | refine s_F ?_ | refine s_nT ?_ | refine s_nF ?_ | refine s_add ?_ | refine s_sub ?_ | refine s_lt ?_ | refine s_gt ?_ | refine s_le ?_ | refine s_ge ?_ | refine s_eqi ?_ | refine s_nei ?_ | refine s_eqs ?_ | refine s_nes ?_ | refine s_neg ?_ | refine s_abs ?_ | refine s_lenT ?_ | refine s_ixT (by with_unfolding_all rfl) ?_ | refine s_lenL (by assumption) ?_ | refine s_ixL (by assumption) (by with_unfolding_all rfl) ?_ | refine s_lenD (by assumption) ?_ | refine s_trL (by assumption) ?_ | refine s_cut ?_ | refine s_partN ?_ | refine s_partS ?_ | refine s_exint ?_ | refine s_cutT ?_ | refine s_cutL (by assumption) ?_ | refine s_eDct ?_ | refine s_pairs1 ?_ | refine s_pairs0 ?_ | refine s_eChain ?_ | refine s_eOrT ?_ | refine s_intB ?_ | refine s_retN ?_ | refine s_raise ?_ | refine s_ex ?_ | refine s_bk ?_ | refine s_ct ?_ | refine s_break ?_ | refine s_cont ?_ | refine s_join ?_ | refine s_exstr ?_ | refine s_get2 ?_ | refine s_append ?_ | refine s_isNon ?_ | refine s_notNon ?_ | refine s_max ?_ | refine s_min ?_ | refine s_par3 ?_ | refine s_mul (by first | assumption | exact mulOk_l (by decide) | exact mulOk_r (by decide)) ?_ | refine s_mod (by first | assumption | decide) ?_ | refine s_div (by first | assumption | exact ⟨by decide, divb_small (by decide)⟩) ?_ | refine s_yesI (by first | assumption | decide) ?_ | refine s_noI (by first | assumption | decide) ?_ | refine s_nyesI (by first | assumption | decide) ?_ | refine s_nnoI (by first | assumption | decide) ?_)))
/-! SpSv: tell, take, levels, marks, undo of the program's store. -/
section
variable {α : Type} {m : Mem} {it : MI} {keep : Mem → Prop} {gg : MG} {own : List Nat} {t : MT} {e : ME} {f0 : Fr}
end
theorem fm_some {α β : Type} (g : α → β) (xs : List α) : xs.filterMap (fun a => some (g a)) = xs.map g := by
  induction xs with
  | nil => rfl
  | cons a r ih => simp [ih]
def aStr : MV → Option Str
  | .str z => some z
  | _ => none
/-- what stands in for a name -/
def Nmv (m : Mem) (x : MV) : Prop := (∃ z, x = .str z ∧ z.length ≤ LINE) ∨ (aStr x = none ∧ ∃ k, kd m x = some k ∧ ∀ z, k ≠ .str z)
theorem Nmv.ext {m m' : Mem} {x : MV} (h : Nmv m x) (e : ∀ k o, x = .ref k → m[k]? = some o → m'[k]? = some o) : Nmv m' x := by
  rcases h with h | ⟨h1, k, hk, h2⟩
  · exact .inl h
  · refine .inr ⟨h1, k, ?_, h2⟩
    cases x with
    | ref n =>
      unfold kd at hk ⊢
      simp only at hk ⊢
      cases hm : m[n]? with
      | none => rw [hm] at hk; cases hk
      | some o => rw [hm] at hk; rw [e n o rfl hm]; exact hk
    | _ => exact hk
section
variable {m : Mem} {s pp pu : Nat} {A : St} {Q : MV → Mem → Prop} {E : Str → Mem → Prop}
end
end Sp

namespace Sp
open PySem MP MF
local macro_rules
  | `(tactic| simp! only [$xs,*]) => `(tactic| try simp only [w_seq, w_set, w_par, w_asg, w_e1, w_e2, w_tup, w_lst, w_dct0, w_call, w_aL1, w_aL0, w_tE, w_tB, w_tAnd, w_tOr, w_tNot, w_eNot, w_eIf, w_ret, w_expr, w_if, w_pass, w_raise, w_gName, w_gSub, w_gTup, w_gAll1, w_gAll0, var_zero, var_succ, run_int, run_str, run_c, Res.wp_ok, List.map_cons, List.map_nil, List.replicate_succ, List.replicate_zero, List.cons_append, List.nil_append, List.append_nil, List.set_cons_zero, List.set_cons_succ, List.length_cons, List.length_nil, o_add, o_sub, o_neg, o_abs, o_lt, o_le, o_gt, o_ge, o_eqi, o_nei, o_bl, tr_bl, o_ix0, o_ix1, o_ix2, o_ix3, o_ix4, if_bl, if_bl', true_and, and_true, decide_true, decide_false, Bool.not_true, Bool.not_false, Bool.false_eq_true, if_true, if_false, $xs,*])
  | `(tactic| simp! only [$xs,*] at $h:ident) => `(tactic| try simp only [w_seq, w_set, w_par, w_asg, w_e1, w_e2, w_tup, w_lst, w_dct0, w_call, w_aL1, w_aL0, w_tE, w_tB, w_tAnd, w_tOr, w_tNot, w_eNot, w_eIf, w_ret, w_expr, w_if, w_pass, w_raise, w_gName, w_gSub, w_gTup, w_gAll1, w_gAll0, var_zero, var_succ, run_int, run_str, run_c, Res.wp_ok, List.map_cons, List.map_nil, List.replicate_succ, List.replicate_zero, List.cons_append, List.nil_append, List.append_nil, List.set_cons_zero, List.set_cons_succ, List.length_cons, List.length_nil, o_add, o_sub, o_neg, o_abs, o_lt, o_le, o_gt, o_ge, o_eqi, o_nei, o_bl, tr_bl, o_ix0, o_ix1, o_ix2, o_ix3, o_ix4, if_bl, if_bl', true_and, and_true, decide_true, decide_false, Bool.not_true, Bool.not_false, Bool.false_eq_true, if_true, if_false, $xs,*] at $h:ident)
  | `(tactic| bv_omega) => `(tactic| repeat (with_reducible (first | refine s_ok ?_ | refine s_nx ?_ | refine s_rt ?_ | refine s_seq ?_ | refine s_set ?_ | refine s_var (by with_unfolding_all rfl) ?_ | refine s_int ?_ | refine s_str ?_ | refine s_c ?_ | refine s_e2 ?_ | refine s_e1 ?_ | refine s_call ?_ | refine s_aL1 ?_ | refine s_aL0 ?_ | refine s_tup ?_ | refine s_lst ?_ | refine s_line (by with_unfolding_all rfl) ?_ | refine s_if ?_ | refine s_tB ?_ | refine s_tE ?_ | refine s_bl ?_ | refine s_trb ?_ | refine s_tAnd ?_ | refine s_tOr ?_ | refine s_tNot ?_ | refine s_yes ?_ | refine s_eNot ?_ | refine s_eIf ?_ | refine s_eAnd ?_ | refine s_eOr ?_ | refine s_exbl ?_ | refine s_ret ?_ | refine s_expr ?_ | refine s_pass ?_ | refine s_asg ?_ | refine s_gName ?_ | refine s_gSub ?_ | refine s_gTup (by with_unfolding_all rfl) ?_ | refine s_gAll1 ?_ | refine s_gAll0 ?_ | refine s_par ?_ | refine s_dct0 ?_ | refine s_T ?_ | refine s_F ?_ | refine s_nT ?_ | refine s_nF ?_ | refine s_add ?_ | refine s_sub ?_ | refine s_lt ?_ | refine s_gt ?_ | refine s_le ?_ | refine s_ge ?_ | refine s_eqi ?_ | refine s_nei ?_ | refine s_eqs ?_ | refine s_nes ?_ | refine s_neg ?_ | refine s_abs ?_ | refine s_lenT ?_ | refine s_ixT (by with_unfolding_all rfl) ?_ | refine s_lenL (by assumption) ?_ | refine s_ixL (by assumption) (by with_unfolding_all rfl) ?_ | refine s_lenD (by assumption) ?_ | refine s_trL (by assumption) ?_ | refine s_cut ?_ | refine s_partN ?_ | refine s_partS ?_ | refine s_exint ?_ | refine s_cutT ?_ | refine s_cutL (by assumption) ?_ | refine s_eDct ?_ | refine s_pairs1 ?_ | refine s_pairs0 ?_ | refine s_eChain ?_ | refine s_eOrT ?_ | refine s_intB ?_ | refine s_retN ?_ | refine s_raise ?_ | refine s_ex ?_ | refine s_bk ?_ | refine s_ct ?_ | refine s_break ?_ | refine s_cont ?_ | refine s_join ?_ | refine s_exstr ?_ | refine s_get2 ?_ | refine s_append ?_ | refine s_isNon ?_ | refine s_notNon ?_ | refine s_max ?_ | refine s_min ?_ | refine s_par3 ?_ | refine s_mul (by first | assumption | exact mulOk_l (by decide) | exact mulOk_r (by decide)) ?_ | refine s_mod (by first | assumption | decide) ?_ | refine s_div (by first | assumption | exact ⟨by decide, divb_small (by decide)⟩) ?_ | refine s_yesI (by first | assumption | decide) ?_ | refine s_noI (by first | assumption | decide) ?_ | refine s_nyesI (by first | assumption | decide) ?_ | refine s_nnoI (by first | assumption | decide) ?_)))
/-! SpSw: marks, undo, tell, what a store tells. -/
section
variable {m : Mem} {s pp pu : Nat} {A : St} {Q : MV → Mem → Prop} {E : Str → Mem → Prop}
/-! ### tell -/
end
end Sp

namespace Sp
open PySem MP MF
local macro_rules
  | `(tactic| simp! only [$xs,*]) => `(tactic| try simp only [w_seq, w_set, w_par, w_asg, w_e1, w_e2, w_tup, w_lst, w_dct0, w_call, w_aL1, w_aL0, w_tE, w_tB, w_tAnd, w_tOr, w_tNot, w_eNot, w_eIf, w_ret, w_expr, w_if, w_pass, w_raise, w_gName, w_gSub, w_gTup, w_gAll1, w_gAll0, var_zero, var_succ, run_int, run_str, run_c, Res.wp_ok, List.map_cons, List.map_nil, List.replicate_succ, List.replicate_zero, List.cons_append, List.nil_append, List.append_nil, List.set_cons_zero, List.set_cons_succ, List.length_cons, List.length_nil, o_add, o_sub, o_neg, o_abs, o_lt, o_le, o_gt, o_ge, o_eqi, o_nei, o_bl, tr_bl, o_ix0, o_ix1, o_ix2, o_ix3, o_ix4, if_bl, if_bl', true_and, and_true, decide_true, decide_false, Bool.not_true, Bool.not_false, Bool.false_eq_true, if_true, if_false, $xs,*])
  | `(tactic| simp! only [$xs,*] at $h:ident) => `(tactic| try simp only [w_seq, w_set, w_par, w_asg, w_e1, w_e2, w_tup, w_lst, w_dct0, w_call, w_aL1, w_aL0, w_tE, w_tB, w_tAnd, w_tOr, w_tNot, w_eNot, w_eIf, w_ret, w_expr, w_if, w_pass, w_raise, w_gName, w_gSub, w_gTup, w_gAll1, w_gAll0, var_zero, var_succ, run_int, run_str, run_c, Res.wp_ok, List.map_cons, List.map_nil, List.replicate_succ, List.replicate_zero, List.cons_append, List.nil_append, List.append_nil, List.set_cons_zero, List.set_cons_succ, List.length_cons, List.length_nil, o_add, o_sub, o_neg, o_abs, o_lt, o_le, o_gt, o_ge, o_eqi, o_nei, o_bl, tr_bl, o_ix0, o_ix1, o_ix2, o_ix3, o_ix4, if_bl, if_bl', true_and, and_true, decide_true, decide_false, Bool.not_true, Bool.not_false, Bool.false_eq_true, if_true, if_false, $xs,*] at $h:ident)
  | `(tactic| bv_omega) => `(tactic| repeat (with_reducible (first | refine s_ok ?_ | refine s_nx ?_ | refine s_rt ?_ | refine s_seq ?_ | refine s_set ?_ | refine s_var (by with_unfolding_all rfl) ?_ | refine s_int ?_ | refine s_str ?_ | refine s_c ?_ | refine s_e2 ?_ | refine s_e1 ?_ | refine s_call ?_ | refine s_aL1 ?_ | refine s_aL0 ?_ | refine s_tup ?_ | refine s_lst ?_ | refine s_line (by with_unfolding_all rfl) ?_ | refine s_if ?_ | refine s_tB ?_ | refine s_tE ?_ | refine s_bl ?_ | refine s_trb ?_ | refine s_tAnd ?_ | refine s_tOr ?_ | refine s_tNot ?_ | refine s_yes ?_ | refine s_eNot ?_ | refine s_eIf ?_ | refine s_eAnd ?_ | refine s_eOr ?_ | refine s_exbl ?_ | refine s_ret ?_ | refine s_expr ?_ | refine s_pass ?_ | refine s_asg ?_ | refine s_gName ?_ | refine s_gSub ?_ | refine s_gTup (by with_unfolding_all rfl) ?_ | refine s_gAll1 ?_ | refine s_gAll0 ?_ | refine s_par ?_ | refine s_dct0 ?_ | refine s_T ?_ | refine s_F ?_ | refine s_nT ?_ | refine s_nF ?_ | refine s_add ?_ | refine s_sub ?_ | refine s_lt ?_ | refine s_gt ?_ | refine s_le ?_ | refine s_ge ?_ | refine s_eqi ?_ | refine s_nei ?_ | refine s_eqs ?_ | refine s_nes ?_ | refine s_neg ?_ | refine s_abs ?_ | refine s_lenT ?_ | refine s_ixT (by with_unfolding_all rfl) ?_ | refine s_lenL (by assumption) ?_ | refine s_ixL (by assumption) (by with_unfolding_all rfl) ?_ | refine s_lenD (by assumption) ?_ | refine s_trL (by assumption) ?_ | refine s_cut ?_ | refine s_partN ?_ | refine s_partS ?_ | refine s_exint ?_ | refine s_cutT ?_ | refine s_cutL (by assumption) ?_ | refine s_eDct ?_ | refine s_pairs1 ?_ | refine s_pairs0 ?_ | refine s_eChain ?_ | refine s_eOrT ?_ | refine s_intB ?_ | refine s_retN ?_ | refine s_raise ?_ | refine s_ex ?_ | refine s_bk ?_ | refine s_ct ?_ | refine s_break ?_ | refine s_cont ?_ | refine s_join ?_ | refine s_exstr ?_ | refine s_get2 ?_ | refine s_append ?_ | refine s_isNon ?_ | refine s_notNon ?_ | refine s_max ?_ | refine s_min ?_ | refine s_par3 ?_ | refine s_mul (by first | assumption | exact mulOk_l (by decide) | exact mulOk_r (by decide)) ?_ | refine s_mod (by first | assumption | decide) ?_ | refine s_div (by first | assumption | exact ⟨by decide, divb_small (by decide)⟩) ?_ | refine s_yesI (by first | assumption | decide) ?_ | refine s_noI (by first | assumption | decide) ?_ | refine s_nyesI (by first | assumption | decide) ?_ | refine s_nnoI (by first | assumption | decide) ?_)))
/-! SpSx: tell; what a store tells of itself; a new store. -/
theorem RowOk.row {m : Mem} {r : Row} (h : RowOk m r) : rowB m r.p = true := rowB_of h.at_ h.cl h.nm h.so
/-- the same but for the place -/
structure Alike (r r' : Row) : Prop where
  its : r'.its = r.its
  sort : r'.sort = r.sort
  bound : r'.bound = r.bound
theorem Alike.refl (r : Row) : Alike r r := ⟨rfl, rfl, rfl⟩
section
variable {m : Mem} {s pp pu : Nat} {A : St} {Q : MV → Mem → Prop} {E : Str → Mem → Prop}
theorem strsOf_strs : ∀ ks : List Str, strsOf (ks.map MV.str) = some ks
  | [] => rfl
  | k :: ks => by
    rw [List.map_cons]
    show (strsOf (ks.map MV.str)).map _ = _
    rw [strsOf_strs ks]; rfl
def St.new : St := ⟨⟨[], [], []⟩, [], []⟩
end
end Sp

namespace Sp
open PySem MP MF
local macro_rules
  | `(tactic| simp! only [$xs,*]) => `(tactic| try simp only [w_seq, w_set, w_par, w_asg, w_e1, w_e2, w_tup, w_lst, w_dct0, w_call, w_aL1, w_aL0, w_tE, w_tB, w_tAnd, w_tOr, w_tNot, w_eNot, w_eIf, w_ret, w_expr, w_if, w_pass, w_raise, w_gName, w_gSub, w_gTup, w_gAll1, w_gAll0, var_zero, var_succ, run_int, run_str, run_c, Res.wp_ok, List.map_cons, List.map_nil, List.replicate_succ, List.replicate_zero, List.cons_append, List.nil_append, List.append_nil, List.set_cons_zero, List.set_cons_succ, List.length_cons, List.length_nil, o_add, o_sub, o_neg, o_abs, o_lt, o_le, o_gt, o_ge, o_eqi, o_nei, o_bl, tr_bl, o_ix0, o_ix1, o_ix2, o_ix3, o_ix4, if_bl, if_bl', true_and, and_true, decide_true, decide_false, Bool.not_true, Bool.not_false, Bool.false_eq_true, if_true, if_false, $xs,*])
  | `(tactic| simp! only [$xs,*] at $h:ident) => `(tactic| try simp only [w_seq, w_set, w_par, w_asg, w_e1, w_e2, w_tup, w_lst, w_dct0, w_call, w_aL1, w_aL0, w_tE, w_tB, w_tAnd, w_tOr, w_tNot, w_eNot, w_eIf, w_ret, w_expr, w_if, w_pass, w_raise, w_gName, w_gSub, w_gTup, w_gAll1, w_gAll0, var_zero, var_succ, run_int, run_str, run_c, Res.wp_ok, List.map_cons, List.map_nil, List.replicate_succ, List.replicate_zero, List.cons_append, List.nil_append, List.append_nil, List.set_cons_zero, List.set_cons_succ, List.length_cons, List.length_nil, o_add, o_sub, o_neg, o_abs, o_lt, o_le, o_gt, o_ge, o_eqi, o_nei, o_bl, tr_bl, o_ix0, o_ix1, o_ix2, o_ix3, o_ix4, if_bl, if_bl', true_and, and_true, decide_true, decide_false, Bool.not_true, Bool.not_false, Bool.false_eq_true, if_true, if_false, $xs,*] at $h:ident)
  | `(tactic| bv_omega) => `(tactic| repeat (with_reducible (first | refine s_ok ?_ | refine s_nx ?_ | refine s_rt ?_ | refine s_seq ?_ | refine s_set ?_ | refine s_var (by with_unfolding_all rfl) ?_ | refine s_int ?_ | refine s_str ?_ | refine s_c ?_ | refine s_e2 ?_ | refine s_e1 ?_ | refine s_call ?_ | refine s_aL1 ?_ | refine s_aL0 ?_ | refine s_tup ?_ | refine s_lst ?_ | refine s_line (by with_unfolding_all rfl) ?_ | refine s_if ?_ | refine s_tB ?_ | refine s_tE ?_ | refine s_bl ?_ | refine s_trb ?_ | refine s_tAnd ?_ | refine s_tOr ?_ | refine s_tNot ?_ | refine s_yes ?_ | refine s_eNot ?_ | refine s_eIf ?_ | refine s_eAnd ?_ | refine s_eOr ?_ | refine s_exbl ?_ | refine s_ret ?_ | refine s_expr ?_ | refine s_pass ?_ | refine s_asg ?_ | refine s_gName ?_ | refine s_gSub ?_ | refine s_gTup (by with_unfolding_all rfl) ?_ | refine s_gAll1 ?_ | refine s_gAll0 ?_ | refine s_par ?_ | refine s_dct0 ?_ | refine s_T ?_ | refine s_F ?_ | refine s_nT ?_ | refine s_nF ?_ | refine s_add ?_ | refine s_sub ?_ | refine s_lt ?_ | refine s_gt ?_ | refine s_le ?_ | refine s_ge ?_ | refine s_eqi ?_ | refine s_nei ?_ | refine s_eqs ?_ | refine s_nes ?_ | refine s_neg ?_ | refine s_abs ?_ | refine s_lenT ?_ | refine s_ixT (by with_unfolding_all rfl) ?_ | refine s_lenL (by assumption) ?_ | refine s_ixL (by assumption) (by with_unfolding_all rfl) ?_ | refine s_lenD (by assumption) ?_ | refine s_trL (by assumption) ?_ | refine s_cut ?_ | refine s_partN ?_ | refine s_partS ?_ | refine s_exint ?_ | refine s_cutT ?_ | refine s_cutL (by assumption) ?_ | refine s_eDct ?_ | refine s_pairs1 ?_ | refine s_pairs0 ?_ | refine s_eChain ?_ | refine s_eOrT ?_ | refine s_intB ?_ | refine s_retN ?_ | refine s_raise ?_ | refine s_ex ?_ | refine s_bk ?_ | refine s_ct ?_ | refine s_break ?_ | refine s_cont ?_ | refine s_join ?_ | refine s_exstr ?_ | refine s_get2 ?_ | refine s_append ?_ | refine s_isNon ?_ | refine s_notNon ?_ | refine s_max ?_ | refine s_min ?_ | refine s_par3 ?_ | refine s_mul (by first | assumption | exact mulOk_l (by decide) | exact mulOk_r (by decide)) ?_ | refine s_mod (by first | assumption | decide) ?_ | refine s_div (by first | assumption | exact ⟨by decide, divb_small (by decide)⟩) ?_ | refine s_yesI (by first | assumption | decide) ?_ | refine s_noI (by first | assumption | decide) ?_ | refine s_nyesI (by first | assumption | decide) ?_ | refine s_nnoI (by first | assumption | decide) ?_)))
/-! SpSy: the law's own book of a store. -/
section
variable {α : Type} {m : Mem} {it : MI} {keep : Mem → Prop} {gg : MG} {own : List Nat} {t : MT} {e : ME} {f0 : Fr} {Q : MV → Mem → Prop} {E : Str → Mem → Prop}
inductive All2 {α β : Type} (R : α → β → Prop) : List α → List β → Prop
  | nil : All2 R [] []
  | cons {a : α} {b : β} {as : List α} {bs : List β} : R a b → All2 R as bs → All2 R (a :: as) (b :: bs)
theorem All2.imp {β : Type} {R S : α → β → Prop} (f : ∀ a b, R a b → S a b) : ∀ {as : List α} {bs : List β}, All2 R as bs → All2 S as bs
  | _, _, .nil => .nil
  | _, _, .cons h t => .cons (f _ _ h) (All2.imp f t)
theorem All2.len {β : Type} {R : α → β → Prop} : ∀ {as : List α} {bs : List β}, All2 R as bs → as.length = bs.length
  | _, _, .nil => rfl
  | _, _, .cons _ t => by rw [List.length_cons, List.length_cons, All2.len t]
end

/-! ### sorted things -/
theorem Alike.l {r r' : Row} (h : Alike r r') : r'.l = r.l := by unfold Row.l; rw [h.its, h.sort, h.bound]
end Sp

namespace Sp
open PySem MP MF
local macro_rules
  | `(tactic| simp! only [$xs,*]) => `(tactic| try simp only [w_seq, w_set, w_par, w_asg, w_e1, w_e2, w_tup, w_lst, w_dct0, w_call, w_aL1, w_aL0, w_tE, w_tB, w_tAnd, w_tOr, w_tNot, w_eNot, w_eIf, w_ret, w_expr, w_if, w_pass, w_raise, w_gName, w_gSub, w_gTup, w_gAll1, w_gAll0, var_zero, var_succ, run_int, run_str, run_c, Res.wp_ok, List.map_cons, List.map_nil, List.replicate_succ, List.replicate_zero, List.cons_append, List.nil_append, List.append_nil, List.set_cons_zero, List.set_cons_succ, List.length_cons, List.length_nil, o_add, o_sub, o_neg, o_abs, o_lt, o_le, o_gt, o_ge, o_eqi, o_nei, o_bl, tr_bl, o_ix0, o_ix1, o_ix2, o_ix3, o_ix4, if_bl, if_bl', true_and, and_true, decide_true, decide_false, Bool.not_true, Bool.not_false, Bool.false_eq_true, if_true, if_false, $xs,*])
  | `(tactic| simp! only [$xs,*] at $h:ident) => `(tactic| try simp only [w_seq, w_set, w_par, w_asg, w_e1, w_e2, w_tup, w_lst, w_dct0, w_call, w_aL1, w_aL0, w_tE, w_tB, w_tAnd, w_tOr, w_tNot, w_eNot, w_eIf, w_ret, w_expr, w_if, w_pass, w_raise, w_gName, w_gSub, w_gTup, w_gAll1, w_gAll0, var_zero, var_succ, run_int, run_str, run_c, Res.wp_ok, List.map_cons, List.map_nil, List.replicate_succ, List.replicate_zero, List.cons_append, List.nil_append, List.append_nil, List.set_cons_zero, List.set_cons_succ, List.length_cons, List.length_nil, o_add, o_sub, o_neg, o_abs, o_lt, o_le, o_gt, o_ge, o_eqi, o_nei, o_bl, tr_bl, o_ix0, o_ix1, o_ix2, o_ix3, o_ix4, if_bl, if_bl', true_and, and_true, decide_true, decide_false, Bool.not_true, Bool.not_false, Bool.false_eq_true, if_true, if_false, $xs,*] at $h:ident)
  | `(tactic| bv_omega) => `(tactic| repeat (with_reducible (first | refine s_ok ?_ | refine s_nx ?_ | refine s_rt ?_ | refine s_seq ?_ | refine s_set ?_ | refine s_var (by with_unfolding_all rfl) ?_ | refine s_int ?_ | refine s_str ?_ | refine s_c ?_ | refine s_e2 ?_ | refine s_e1 ?_ | refine s_call ?_ | refine s_aL1 ?_ | refine s_aL0 ?_ | refine s_tup ?_ | refine s_lst ?_ | refine s_line (by with_unfolding_all rfl) ?_ | refine s_if ?_ | refine s_tB ?_ | refine s_tE ?_ | refine s_bl ?_ | refine s_trb ?_ | refine s_tAnd ?_ | refine s_tOr ?_ | refine s_tNot ?_ | refine s_yes ?_ | refine s_eNot ?_ | refine s_eIf ?_ | refine s_eAnd ?_ | refine s_eOr ?_ | refine s_exbl ?_ | refine s_ret ?_ | refine s_expr ?_ | refine s_pass ?_ | refine s_asg ?_ | refine s_gName ?_ | refine s_gSub ?_ | refine s_gTup (by with_unfolding_all rfl) ?_ | refine s_gAll1 ?_ | refine s_gAll0 ?_ | refine s_par ?_ | refine s_dct0 ?_ | refine s_T ?_ | refine s_F ?_ | refine s_nT ?_ | refine s_nF ?_ | refine s_add ?_ | refine s_sub ?_ | refine s_lt ?_ | refine s_gt ?_ | refine s_le ?_ | refine s_ge ?_ | refine s_eqi ?_ | refine s_nei ?_ | refine s_eqs ?_ | refine s_nes ?_ | refine s_neg ?_ | refine s_abs ?_ | refine s_lenT ?_ | refine s_ixT (by with_unfolding_all rfl) ?_ | refine s_lenL (by assumption) ?_ | refine s_ixL (by assumption) (by with_unfolding_all rfl) ?_ | refine s_lenD (by assumption) ?_ | refine s_trL (by assumption) ?_ | refine s_cut ?_ | refine s_partN ?_ | refine s_partS ?_ | refine s_exint ?_ | refine s_cutT ?_ | refine s_cutL (by assumption) ?_ | refine s_eDct ?_ | refine s_pairs1 ?_ | refine s_pairs0 ?_ | refine s_eChain ?_ | refine s_eOrT ?_ | refine s_intB ?_ | refine s_retN ?_ | refine s_raise ?_ | refine s_ex ?_ | refine s_bk ?_ | refine s_ct ?_ | refine s_break ?_ | refine s_cont ?_ | refine s_join ?_ | refine s_exstr ?_ | refine s_get2 ?_ | refine s_append ?_ | refine s_isNon ?_ | refine s_notNon ?_ | refine s_max ?_ | refine s_min ?_ | refine s_par3 ?_ | refine s_mul (by first | assumption | exact mulOk_l (by decide) | exact mulOk_r (by decide)) ?_ | refine s_mod (by first | assumption | decide) ?_ | refine s_div (by first | assumption | exact ⟨by decide, divb_small (by decide)⟩) ?_ | refine s_yesI (by first | assumption | decide) ?_ | refine s_noI (by first | assumption | decide) ?_ | refine s_nyesI (by first | assumption | decide) ?_ | refine s_nnoI (by first | assumption | decide) ?_)))
/-! SpKd: the store laws' word for a refusal. -/
section
variable {m : Mem} {Q : MV → Mem → Prop} {E : Str → Mem → Prop}
end
end Sp

namespace Sp
open PySem MP MF
local macro_rules
  | `(tactic| simp! only [$xs,*]) => `(tactic| try simp only [w_seq, w_set, w_par, w_asg, w_e1, w_e2, w_tup, w_lst, w_dct0, w_call, w_aL1, w_aL0, w_tE, w_tB, w_tAnd, w_tOr, w_tNot, w_eNot, w_eIf, w_ret, w_expr, w_if, w_pass, w_raise, w_gName, w_gSub, w_gTup, w_gAll1, w_gAll0, var_zero, var_succ, run_int, run_str, run_c, Res.wp_ok, List.map_cons, List.map_nil, List.replicate_succ, List.replicate_zero, List.cons_append, List.nil_append, List.append_nil, List.set_cons_zero, List.set_cons_succ, List.length_cons, List.length_nil, o_add, o_sub, o_neg, o_abs, o_lt, o_le, o_gt, o_ge, o_eqi, o_nei, o_bl, tr_bl, o_ix0, o_ix1, o_ix2, o_ix3, o_ix4, if_bl, if_bl', true_and, and_true, decide_true, decide_false, Bool.not_true, Bool.not_false, Bool.false_eq_true, if_true, if_false, $xs,*])
  | `(tactic| simp! only [$xs,*] at $h:ident) => `(tactic| try simp only [w_seq, w_set, w_par, w_asg, w_e1, w_e2, w_tup, w_lst, w_dct0, w_call, w_aL1, w_aL0, w_tE, w_tB, w_tAnd, w_tOr, w_tNot, w_eNot, w_eIf, w_ret, w_expr, w_if, w_pass, w_raise, w_gName, w_gSub, w_gTup, w_gAll1, w_gAll0, var_zero, var_succ, run_int, run_str, run_c, Res.wp_ok, List.map_cons, List.map_nil, List.replicate_succ, List.replicate_zero, List.cons_append, List.nil_append, List.append_nil, List.set_cons_zero, List.set_cons_succ, List.length_cons, List.length_nil, o_add, o_sub, o_neg, o_abs, o_lt, o_le, o_gt, o_ge, o_eqi, o_nei, o_bl, tr_bl, o_ix0, o_ix1, o_ix2, o_ix3, o_ix4, if_bl, if_bl', true_and, and_true, decide_true, decide_false, Bool.not_true, Bool.not_false, Bool.false_eq_true, if_true, if_false, $xs,*] at $h:ident)
  | `(tactic| bv_omega) => `(tactic| repeat (with_reducible (first | refine s_ok ?_ | refine s_nx ?_ | refine s_rt ?_ | refine s_seq ?_ | refine s_set ?_ | refine s_var (by with_unfolding_all rfl) ?_ | refine s_int ?_ | refine s_str ?_ | refine s_c ?_ | refine s_e2 ?_ | refine s_e1 ?_ | refine s_call ?_ | refine s_aL1 ?_ | refine s_aL0 ?_ | refine s_tup ?_ | refine s_lst ?_ | refine s_line (by with_unfolding_all rfl) ?_ | refine s_if ?_ | refine s_tB ?_ | refine s_tE ?_ | refine s_bl ?_ | refine s_trb ?_ | refine s_tAnd ?_ | refine s_tOr ?_ | refine s_tNot ?_ | refine s_yes ?_ | refine s_eNot ?_ | refine s_eIf ?_ | refine s_eAnd ?_ | refine s_eOr ?_ | refine s_exbl ?_ | refine s_ret ?_ | refine s_expr ?_ | refine s_pass ?_ | refine s_asg ?_ | refine s_gName ?_ | refine s_gSub ?_ | refine s_gTup (by with_unfolding_all rfl) ?_ | refine s_gAll1 ?_ | refine s_gAll0 ?_ | refine s_par ?_ | refine s_dct0 ?_ | refine s_T ?_ | refine s_F ?_ | refine s_nT ?_ | refine s_nF ?_ | refine s_add ?_ | refine s_sub ?_ | refine s_lt ?_ | refine s_gt ?_ | refine s_le ?_ | refine s_ge ?_ | refine s_eqi ?_ | refine s_nei ?_ | refine s_eqs ?_ | refine s_nes ?_ | refine s_neg ?_ | refine s_abs ?_ | refine s_lenT ?_ | refine s_ixT (by with_unfolding_all rfl) ?_ | refine s_lenL (by assumption) ?_ | refine s_ixL (by assumption) (by with_unfolding_all rfl) ?_ | refine s_lenD (by assumption) ?_ | refine s_trL (by assumption) ?_ | refine s_cut ?_ | refine s_partN ?_ | refine s_partS ?_ | refine s_exint ?_ | refine s_cutT ?_ | refine s_cutL (by assumption) ?_ | refine s_eDct ?_ | refine s_pairs1 ?_ | refine s_pairs0 ?_ | refine s_eChain ?_ | refine s_eOrT ?_ | refine s_intB ?_ | refine s_retN ?_ | refine s_raise ?_ | refine s_ex ?_ | refine s_bk ?_ | refine s_ct ?_ | refine s_break ?_ | refine s_cont ?_ | refine s_join ?_ | refine s_exstr ?_ | refine s_get2 ?_ | refine s_append ?_ | refine s_isNon ?_ | refine s_notNon ?_ | refine s_max ?_ | refine s_min ?_ | refine s_par3 ?_ | refine s_mul (by first | assumption | exact mulOk_l (by decide) | exact mulOk_r (by decide)) ?_ | refine s_mod (by first | assumption | decide) ?_ | refine s_div (by first | assumption | exact ⟨by decide, divb_small (by decide)⟩) ?_ | refine s_yesI (by first | assumption | decide) ?_ | refine s_noI (by first | assumption | decide) ?_ | refine s_nyesI (by first | assumption | decide) ?_ | refine s_nnoI (by first | assumption | decide) ?_)))
/-! SpSz: what the law's book does with a deed. -/
section
variable {m : Mem} {Q : MV → Mem → Prop} {E : Str → Mem → Prop}
/-- the law's book -/
structure BR (m : Mem) (b : Nat) (A : St) (bp bu : Nat) : Prop where
  at_ : m[b]? = some (.lst [lWhole A.now, .ref bp, .ref bu])
  past : m[bp]? = some (.lst (A.past.map lWhole))
  und : m[bu]? = some (.lst (A.undone.map lWhole))
  ne1 : b ≠ bp
  ne2 : b ≠ bu
  ne : bp ≠ bu
theorem BR.keep {m m' : Mem} {b bp bu : Nat} {A : St} (R : BR m b A bp bu) {D : List Nat} (k : Kx D m m') (h1 : b ∉ D) (h2 : bp ∉ D) (h3 : bu ∉ D) : BR m' b A bp bu := ⟨k _ _ R.at_ h1, k _ _ R.past h2, k _ _ R.und h3, R.ne1, R.ne2, R.ne⟩
theorem BR.ext {m m' : Mem} {b bp bu : Nat} {A : St} (R : BR m b A bp bu) (k : Ext m m') : BR m' b A bp bu := ⟨k _ _ R.at_, k _ _ R.past, k _ _ R.und, R.ne1, R.ne2, R.ne⟩
theorem BR.kd {m m' : Mem} {b bp bu : Nat} {A : St} (R : BR m b A bp bu) (k : Kx [b, bp, bu] m m') : Kd m m' := fun j kvs h => by
  refine k _ _ h fun hj => ?_
  have h1 := R.at_
  have h2 := R.past
  have h3 := R.und
  rcases List.mem_cons.mp hj with rfl | hj
  · rw [h] at h1; cases h1
  rcases List.mem_cons.mp hj with rfl | hj
  · rw [h] at h2; cases h2
  rcases List.mem_cons.mp hj with rfl | hj
  · rw [h] at h3; cases h3
  · cases hj
end
end Sp

namespace Sp
open PySem MP MF
local macro_rules
  | `(tactic| simp! only [$xs,*]) => `(tactic| try simp only [w_seq, w_set, w_par, w_asg, w_e1, w_e2, w_tup, w_lst, w_dct0, w_call, w_aL1, w_aL0, w_tE, w_tB, w_tAnd, w_tOr, w_tNot, w_eNot, w_eIf, w_ret, w_expr, w_if, w_pass, w_raise, w_gName, w_gSub, w_gTup, w_gAll1, w_gAll0, var_zero, var_succ, run_int, run_str, run_c, Res.wp_ok, List.map_cons, List.map_nil, List.replicate_succ, List.replicate_zero, List.cons_append, List.nil_append, List.append_nil, List.set_cons_zero, List.set_cons_succ, List.length_cons, List.length_nil, o_add, o_sub, o_neg, o_abs, o_lt, o_le, o_gt, o_ge, o_eqi, o_nei, o_bl, tr_bl, o_ix0, o_ix1, o_ix2, o_ix3, o_ix4, if_bl, if_bl', true_and, and_true, decide_true, decide_false, Bool.not_true, Bool.not_false, Bool.false_eq_true, if_true, if_false, $xs,*])
  | `(tactic| simp! only [$xs,*] at $h:ident) => `(tactic| try simp only [w_seq, w_set, w_par, w_asg, w_e1, w_e2, w_tup, w_lst, w_dct0, w_call, w_aL1, w_aL0, w_tE, w_tB, w_tAnd, w_tOr, w_tNot, w_eNot, w_eIf, w_ret, w_expr, w_if, w_pass, w_raise, w_gName, w_gSub, w_gTup, w_gAll1, w_gAll0, var_zero, var_succ, run_int, run_str, run_c, Res.wp_ok, List.map_cons, List.map_nil, List.replicate_succ, List.replicate_zero, List.cons_append, List.nil_append, List.append_nil, List.set_cons_zero, List.set_cons_succ, List.length_cons, List.length_nil, o_add, o_sub, o_neg, o_abs, o_lt, o_le, o_gt, o_ge, o_eqi, o_nei, o_bl, tr_bl, o_ix0, o_ix1, o_ix2, o_ix3, o_ix4, if_bl, if_bl', true_and, and_true, decide_true, decide_false, Bool.not_true, Bool.not_false, Bool.false_eq_true, if_true, if_false, $xs,*] at $h:ident)
  | `(tactic| bv_omega) => `(tactic| repeat (with_reducible (first | refine s_ok ?_ | refine s_nx ?_ | refine s_rt ?_ | refine s_seq ?_ | refine s_set ?_ | refine s_var (by with_unfolding_all rfl) ?_ | refine s_int ?_ | refine s_str ?_ | refine s_c ?_ | refine s_e2 ?_ | refine s_e1 ?_ | refine s_call ?_ | refine s_aL1 ?_ | refine s_aL0 ?_ | refine s_tup ?_ | refine s_lst ?_ | refine s_line (by with_unfolding_all rfl) ?_ | refine s_if ?_ | refine s_tB ?_ | refine s_tE ?_ | refine s_bl ?_ | refine s_trb ?_ | refine s_tAnd ?_ | refine s_tOr ?_ | refine s_tNot ?_ | refine s_yes ?_ | refine s_eNot ?_ | refine s_eIf ?_ | refine s_eAnd ?_ | refine s_eOr ?_ | refine s_exbl ?_ | refine s_ret ?_ | refine s_expr ?_ | refine s_pass ?_ | refine s_asg ?_ | refine s_gName ?_ | refine s_gSub ?_ | refine s_gTup (by with_unfolding_all rfl) ?_ | refine s_gAll1 ?_ | refine s_gAll0 ?_ | refine s_par ?_ | refine s_dct0 ?_ | refine s_T ?_ | refine s_F ?_ | refine s_nT ?_ | refine s_nF ?_ | refine s_add ?_ | refine s_sub ?_ | refine s_lt ?_ | refine s_gt ?_ | refine s_le ?_ | refine s_ge ?_ | refine s_eqi ?_ | refine s_nei ?_ | refine s_eqs ?_ | refine s_nes ?_ | refine s_neg ?_ | refine s_abs ?_ | refine s_lenT ?_ | refine s_ixT (by with_unfolding_all rfl) ?_ | refine s_lenL (by assumption) ?_ | refine s_ixL (by assumption) (by with_unfolding_all rfl) ?_ | refine s_lenD (by assumption) ?_ | refine s_trL (by assumption) ?_ | refine s_cut ?_ | refine s_partN ?_ | refine s_partS ?_ | refine s_exint ?_ | refine s_cutT ?_ | refine s_cutL (by assumption) ?_ | refine s_eDct ?_ | refine s_pairs1 ?_ | refine s_pairs0 ?_ | refine s_eChain ?_ | refine s_eOrT ?_ | refine s_intB ?_ | refine s_retN ?_ | refine s_raise ?_ | refine s_ex ?_ | refine s_bk ?_ | refine s_ct ?_ | refine s_break ?_ | refine s_cont ?_ | refine s_join ?_ | refine s_exstr ?_ | refine s_get2 ?_ | refine s_append ?_ | refine s_isNon ?_ | refine s_notNon ?_ | refine s_max ?_ | refine s_min ?_ | refine s_par3 ?_ | refine s_mul (by first | assumption | exact mulOk_l (by decide) | exact mulOk_r (by decide)) ?_ | refine s_mod (by first | assumption | decide) ?_ | refine s_div (by first | assumption | exact ⟨by decide, divb_small (by decide)⟩) ?_ | refine s_yesI (by first | assumption | decide) ?_ | refine s_noI (by first | assumption | decide) ?_ | refine s_nyesI (by first | assumption | decide) ?_ | refine s_nnoI (by first | assumption | decide) ?_)))
/-! SpTa: the law's book behind a deed. -/
def NmvD (m : Mem) (x : MV) : Prop := Nmv m x ∧ True
theorem NmvD.ext {m m' : Mem} {x : MV} (h : NmvD m x) (e : ∀ k o, x = .ref k → m[k]? = some o → m'[k]? = some o) : NmvD m' x := by
  exact ⟨h.1.ext e, trivial⟩
section
variable {m : Mem} {b bp bu : Nat} {A : St} {Q : MV → Mem → Prop} {E : Str → Mem → Prop} {P : SR.Post} {fr : Fr}
end
end Sp

namespace Sp
open PySem MP MF
local macro_rules
  | `(tactic| simp! only [$xs,*]) => `(tactic| try simp only [w_seq, w_set, w_par, w_asg, w_e1, w_e2, w_tup, w_lst, w_dct0, w_call, w_aL1, w_aL0, w_tE, w_tB, w_tAnd, w_tOr, w_tNot, w_eNot, w_eIf, w_ret, w_expr, w_if, w_pass, w_raise, w_gName, w_gSub, w_gTup, w_gAll1, w_gAll0, var_zero, var_succ, run_int, run_str, run_c, Res.wp_ok, List.map_cons, List.map_nil, List.replicate_succ, List.replicate_zero, List.cons_append, List.nil_append, List.append_nil, List.set_cons_zero, List.set_cons_succ, List.length_cons, List.length_nil, o_add, o_sub, o_neg, o_abs, o_lt, o_le, o_gt, o_ge, o_eqi, o_nei, o_bl, tr_bl, o_ix0, o_ix1, o_ix2, o_ix3, o_ix4, if_bl, if_bl', true_and, and_true, decide_true, decide_false, Bool.not_true, Bool.not_false, Bool.false_eq_true, if_true, if_false, $xs,*])
  | `(tactic| simp! only [$xs,*] at $h:ident) => `(tactic| try simp only [w_seq, w_set, w_par, w_asg, w_e1, w_e2, w_tup, w_lst, w_dct0, w_call, w_aL1, w_aL0, w_tE, w_tB, w_tAnd, w_tOr, w_tNot, w_eNot, w_eIf, w_ret, w_expr, w_if, w_pass, w_raise, w_gName, w_gSub, w_gTup, w_gAll1, w_gAll0, var_zero, var_succ, run_int, run_str, run_c, Res.wp_ok, List.map_cons, List.map_nil, List.replicate_succ, List.replicate_zero, List.cons_append, List.nil_append, List.append_nil, List.set_cons_zero, List.set_cons_succ, List.length_cons, List.length_nil, o_add, o_sub, o_neg, o_abs, o_lt, o_le, o_gt, o_ge, o_eqi, o_nei, o_bl, tr_bl, o_ix0, o_ix1, o_ix2, o_ix3, o_ix4, if_bl, if_bl', true_and, and_true, decide_true, decide_false, Bool.not_true, Bool.not_false, Bool.false_eq_true, if_true, if_false, $xs,*] at $h:ident)
  | `(tactic| bv_omega) => `(tactic| repeat (with_reducible (first | refine s_ok ?_ | refine s_nx ?_ | refine s_rt ?_ | refine s_seq ?_ | refine s_set ?_ | refine s_var (by with_unfolding_all rfl) ?_ | refine s_int ?_ | refine s_str ?_ | refine s_c ?_ | refine s_e2 ?_ | refine s_e1 ?_ | refine s_call ?_ | refine s_aL1 ?_ | refine s_aL0 ?_ | refine s_tup ?_ | refine s_lst ?_ | refine s_line (by with_unfolding_all rfl) ?_ | refine s_if ?_ | refine s_tB ?_ | refine s_tE ?_ | refine s_bl ?_ | refine s_trb ?_ | refine s_tAnd ?_ | refine s_tOr ?_ | refine s_tNot ?_ | refine s_yes ?_ | refine s_eNot ?_ | refine s_eIf ?_ | refine s_eAnd ?_ | refine s_eOr ?_ | refine s_exbl ?_ | refine s_ret ?_ | refine s_expr ?_ | refine s_pass ?_ | refine s_asg ?_ | refine s_gName ?_ | refine s_gSub ?_ | refine s_gTup (by with_unfolding_all rfl) ?_ | refine s_gAll1 ?_ | refine s_gAll0 ?_ | refine s_par ?_ | refine s_dct0 ?_ | refine s_T ?_ | refine s_F ?_ | refine s_nT ?_ | refine s_nF ?_ | refine s_add ?_ | refine s_sub ?_ | refine s_lt ?_ | refine s_gt ?_ | refine s_le ?_ | refine s_ge ?_ | refine s_eqi ?_ | refine s_nei ?_ | refine s_eqs ?_ | refine s_nes ?_ | refine s_neg ?_ | refine s_abs ?_ | refine s_lenT ?_ | refine s_ixT (by with_unfolding_all rfl) ?_ | refine s_lenL (by assumption) ?_ | refine s_ixL (by assumption) (by with_unfolding_all rfl) ?_ | refine s_lenD (by assumption) ?_ | refine s_trL (by assumption) ?_ | refine s_cut ?_ | refine s_partN ?_ | refine s_partS ?_ | refine s_exint ?_ | refine s_cutT ?_ | refine s_cutL (by assumption) ?_ | refine s_eDct ?_ | refine s_pairs1 ?_ | refine s_pairs0 ?_ | refine s_eChain ?_ | refine s_eOrT ?_ | refine s_intB ?_ | refine s_retN ?_ | refine s_raise ?_ | refine s_ex ?_ | refine s_bk ?_ | refine s_ct ?_ | refine s_break ?_ | refine s_cont ?_ | refine s_join ?_ | refine s_exstr ?_ | refine s_get2 ?_ | refine s_append ?_ | refine s_isNon ?_ | refine s_notNon ?_ | refine s_max ?_ | refine s_min ?_ | refine s_par3 ?_ | refine s_mul (by first | assumption | exact mulOk_l (by decide) | exact mulOk_r (by decide)) ?_ | refine s_mod (by first | assumption | decide) ?_ | refine s_div (by first | assumption | exact ⟨by decide, divb_small (by decide)⟩) ?_ | refine s_yesI (by first | assumption | decide) ?_ | refine s_noI (by first | assumption | decide) ?_ | refine s_nyesI (by first | assumption | decide) ?_ | refine s_nnoI (by first | assumption | decide) ?_)))
/-! SpTb: what is due of a deed. -/
inductive DeedR (Ws : List Str) (m : Mem) : MV → Dd → Prop
  | tellN {nm x : MV} (h1 : Dat 2 m nm) (h2 : nameB nm = false) (h3 : Dat 4 m x) (h4 : rowB m x = false ∨ ∃ r, x = r.p ∧ RowOk m r) : DeedR Ws m (.tup [.str "tell", nm, x]) (.tell none none)
  | tellR {z : Str} {x : MV} (h1 : IsName z) (h3 : Dat 4 m x) (h4 : rowB m x = false) : DeedR Ws m (.tup [.str "tell", .str z, x]) (.tell (some z) none)
  | tell {z : Str} {r : Row} (h1 : IsName z) (h2 : RowOk m r) : DeedR Ws m (.tup [.str "tell", .str z, r.p]) (.tell (some z) (some r))
  | take {nm : MV} (h1 : NmvD m nm) (h2 : noX nm = true) : DeedR Ws m (.tup [.str "take", nm]) (.take (aStr nm))
  | enter : DeedR Ws m (.tup [.str "enter"]) .enter
  | leave : DeedR Ws m (.tup [.str "leave"]) .leave
  | markN {nm : MV} (h1 : Dat 2 m nm) (h2 : nameB nm = false) : DeedR Ws m (.tup [.str "mark", nm]) (.mark none)
  | mark {z : Str} (h1 : IsName z) (h2 : z ∈ Ws) : DeedR Ws m (.tup [.str "mark", .str z]) (.mark (some z))
  | back {nm : MV} (h1 : Nmv m nm) (h2 : noX nm = true) : DeedR Ws m (.tup [.str "back", nm]) (.back (aStr nm))
  | undo : DeedR Ws m (.tup [.str "undo"]) .undo
  | again : DeedR Ws m (.tup [.str "again"]) .again
section
variable {m : Mem} {b bp bu : Nat} {A : St} {Q : MV → Mem → Prop} {E : Str → Mem → Prop} {P : SR.Post} {fr : Fr}
/-- behind a deed -/
abbrev DueQ (m : Mem) (b bp bu : Nat) (A : St) (d : Dd) (Q : MV → Mem → Prop) : Prop := ∀ m', BR m' b (act A d).2 bp bu → Kx [b, bp, bu] m m' → m.length ≤ m'.length → Q (.str (act A d).1) m'
theorem DueQ.ext {m m1 : Mem} {d : Dd} (h : DueQ m b bp bu A d Q) (x : Ext m m1) : DueQ m1 b bp bu A d Q := fun m' B k l => h m' B ((x.kx _).trans k) (by have := x.len; omega)
theorem DueQ.stay {m1 : Mem} {d : Dd} {c : Str} (h : DueQ m b bp bu A d Q) (e : act A d = (c, A)) (B : BR m b A bp bu) (x : Ext m m1) : Q (.str c) m1 := by
  have := h m1 (by rw [e]; exact B.ext x) (x.kx _) x.len
  rw [e] at this
  exact this
end
end Sp

namespace Sp
open PySem MP MF
local macro_rules
  | `(tactic| simp! only [$xs,*]) => `(tactic| try simp only [w_seq, w_set, w_par, w_asg, w_e1, w_e2, w_tup, w_lst, w_dct0, w_call, w_aL1, w_aL0, w_tE, w_tB, w_tAnd, w_tOr, w_tNot, w_eNot, w_eIf, w_ret, w_expr, w_if, w_pass, w_raise, w_gName, w_gSub, w_gTup, w_gAll1, w_gAll0, var_zero, var_succ, run_int, run_str, run_c, Res.wp_ok, List.map_cons, List.map_nil, List.replicate_succ, List.replicate_zero, List.cons_append, List.nil_append, List.append_nil, List.set_cons_zero, List.set_cons_succ, List.length_cons, List.length_nil, o_add, o_sub, o_neg, o_abs, o_lt, o_le, o_gt, o_ge, o_eqi, o_nei, o_bl, tr_bl, o_ix0, o_ix1, o_ix2, o_ix3, o_ix4, if_bl, if_bl', true_and, and_true, decide_true, decide_false, Bool.not_true, Bool.not_false, Bool.false_eq_true, if_true, if_false, $xs,*])
  | `(tactic| simp! only [$xs,*] at $h:ident) => `(tactic| try simp only [w_seq, w_set, w_par, w_asg, w_e1, w_e2, w_tup, w_lst, w_dct0, w_call, w_aL1, w_aL0, w_tE, w_tB, w_tAnd, w_tOr, w_tNot, w_eNot, w_eIf, w_ret, w_expr, w_if, w_pass, w_raise, w_gName, w_gSub, w_gTup, w_gAll1, w_gAll0, var_zero, var_succ, run_int, run_str, run_c, Res.wp_ok, List.map_cons, List.map_nil, List.replicate_succ, List.replicate_zero, List.cons_append, List.nil_append, List.append_nil, List.set_cons_zero, List.set_cons_succ, List.length_cons, List.length_nil, o_add, o_sub, o_neg, o_abs, o_lt, o_le, o_gt, o_ge, o_eqi, o_nei, o_bl, tr_bl, o_ix0, o_ix1, o_ix2, o_ix3, o_ix4, if_bl, if_bl', true_and, and_true, decide_true, decide_false, Bool.not_true, Bool.not_false, Bool.false_eq_true, if_true, if_false, $xs,*] at $h:ident)
  | `(tactic| bv_omega) => `(tactic| repeat (with_reducible (first | refine s_ok ?_ | refine s_nx ?_ | refine s_rt ?_ | refine s_seq ?_ | refine s_set ?_ | refine s_var (by with_unfolding_all rfl) ?_ | refine s_int ?_ | refine s_str ?_ | refine s_c ?_ | refine s_e2 ?_ | refine s_e1 ?_ | refine s_call ?_ | refine s_aL1 ?_ | refine s_aL0 ?_ | refine s_tup ?_ | refine s_lst ?_ | refine s_line (by with_unfolding_all rfl) ?_ | refine s_if ?_ | refine s_tB ?_ | refine s_tE ?_ | refine s_bl ?_ | refine s_trb ?_ | refine s_tAnd ?_ | refine s_tOr ?_ | refine s_tNot ?_ | refine s_yes ?_ | refine s_eNot ?_ | refine s_eIf ?_ | refine s_eAnd ?_ | refine s_eOr ?_ | refine s_exbl ?_ | refine s_ret ?_ | refine s_expr ?_ | refine s_pass ?_ | refine s_asg ?_ | refine s_gName ?_ | refine s_gSub ?_ | refine s_gTup (by with_unfolding_all rfl) ?_ | refine s_gAll1 ?_ | refine s_gAll0 ?_ | refine s_par ?_ | refine s_dct0 ?_ | refine s_T ?_ | refine s_F ?_ | refine s_nT ?_ | refine s_nF ?_ | refine s_add ?_ | refine s_sub ?_ | refine s_lt ?_ | refine s_gt ?_ | refine s_le ?_ | refine s_ge ?_ | refine s_eqi ?_ | refine s_nei ?_ | refine s_eqs ?_ | refine s_nes ?_ | refine s_neg ?_ | refine s_abs ?_ | refine s_lenT ?_ | refine s_ixT (by with_unfolding_all rfl) ?_ | refine s_lenL (by assumption) ?_ | refine s_ixL (by assumption) (by with_unfolding_all rfl) ?_ | refine s_lenD (by assumption) ?_ | refine s_trL (by assumption) ?_ | refine s_cut ?_ | refine s_partN ?_ | refine s_partS ?_ | refine s_exint ?_ | refine s_cutT ?_ | refine s_cutL (by assumption) ?_ | refine s_eDct ?_ | refine s_pairs1 ?_ | refine s_pairs0 ?_ | refine s_eChain ?_ | refine s_eOrT ?_ | refine s_intB ?_ | refine s_retN ?_ | refine s_raise ?_ | refine s_ex ?_ | refine s_bk ?_ | refine s_ct ?_ | refine s_break ?_ | refine s_cont ?_ | refine s_join ?_ | refine s_exstr ?_ | refine s_get2 ?_ | refine s_append ?_ | refine s_isNon ?_ | refine s_notNon ?_ | refine s_max ?_ | refine s_min ?_ | refine s_par3 ?_ | refine s_mul (by first | assumption | exact mulOk_l (by decide) | exact mulOk_r (by decide)) ?_ | refine s_mod (by first | assumption | decide) ?_ | refine s_div (by first | assumption | exact ⟨by decide, divb_small (by decide)⟩) ?_ | refine s_yesI (by first | assumption | decide) ?_ | refine s_noI (by first | assumption | decide) ?_ | refine s_nyesI (by first | assumption | decide) ?_ | refine s_nnoI (by first | assumption | decide) ?_)))
/-! SpTc: the due answer. -/
section
variable {m : Mem} {b bp bu : Nat} {A : St} {Q : MV → Mem → Prop} {E : Str → Mem → Prop}
end
end Sp

namespace Sp
open PySem MP MF
local macro_rules
  | `(tactic| simp! only [$xs,*]) => `(tactic| try simp only [w_seq, w_set, w_par, w_asg, w_e1, w_e2, w_tup, w_lst, w_dct0, w_call, w_aL1, w_aL0, w_tE, w_tB, w_tAnd, w_tOr, w_tNot, w_eNot, w_eIf, w_ret, w_expr, w_if, w_pass, w_raise, w_gName, w_gSub, w_gTup, w_gAll1, w_gAll0, var_zero, var_succ, run_int, run_str, run_c, Res.wp_ok, List.map_cons, List.map_nil, List.replicate_succ, List.replicate_zero, List.cons_append, List.nil_append, List.append_nil, List.set_cons_zero, List.set_cons_succ, List.length_cons, List.length_nil, o_add, o_sub, o_neg, o_abs, o_lt, o_le, o_gt, o_ge, o_eqi, o_nei, o_bl, tr_bl, o_ix0, o_ix1, o_ix2, o_ix3, o_ix4, if_bl, if_bl', true_and, and_true, decide_true, decide_false, Bool.not_true, Bool.not_false, Bool.false_eq_true, if_true, if_false, $xs,*])
  | `(tactic| simp! only [$xs,*] at $h:ident) => `(tactic| try simp only [w_seq, w_set, w_par, w_asg, w_e1, w_e2, w_tup, w_lst, w_dct0, w_call, w_aL1, w_aL0, w_tE, w_tB, w_tAnd, w_tOr, w_tNot, w_eNot, w_eIf, w_ret, w_expr, w_if, w_pass, w_raise, w_gName, w_gSub, w_gTup, w_gAll1, w_gAll0, var_zero, var_succ, run_int, run_str, run_c, Res.wp_ok, List.map_cons, List.map_nil, List.replicate_succ, List.replicate_zero, List.cons_append, List.nil_append, List.append_nil, List.set_cons_zero, List.set_cons_succ, List.length_cons, List.length_nil, o_add, o_sub, o_neg, o_abs, o_lt, o_le, o_gt, o_ge, o_eqi, o_nei, o_bl, tr_bl, o_ix0, o_ix1, o_ix2, o_ix3, o_ix4, if_bl, if_bl', true_and, and_true, decide_true, decide_false, Bool.not_true, Bool.not_false, Bool.false_eq_true, if_true, if_false, $xs,*] at $h:ident)
  | `(tactic| bv_omega) => `(tactic| repeat (with_reducible (first | refine s_ok ?_ | refine s_nx ?_ | refine s_rt ?_ | refine s_seq ?_ | refine s_set ?_ | refine s_var (by with_unfolding_all rfl) ?_ | refine s_int ?_ | refine s_str ?_ | refine s_c ?_ | refine s_e2 ?_ | refine s_e1 ?_ | refine s_call ?_ | refine s_aL1 ?_ | refine s_aL0 ?_ | refine s_tup ?_ | refine s_lst ?_ | refine s_line (by with_unfolding_all rfl) ?_ | refine s_if ?_ | refine s_tB ?_ | refine s_tE ?_ | refine s_bl ?_ | refine s_trb ?_ | refine s_tAnd ?_ | refine s_tOr ?_ | refine s_tNot ?_ | refine s_yes ?_ | refine s_eNot ?_ | refine s_eIf ?_ | refine s_eAnd ?_ | refine s_eOr ?_ | refine s_exbl ?_ | refine s_ret ?_ | refine s_expr ?_ | refine s_pass ?_ | refine s_asg ?_ | refine s_gName ?_ | refine s_gSub ?_ | refine s_gTup (by with_unfolding_all rfl) ?_ | refine s_gAll1 ?_ | refine s_gAll0 ?_ | refine s_par ?_ | refine s_dct0 ?_ | refine s_T ?_ | refine s_F ?_ | refine s_nT ?_ | refine s_nF ?_ | refine s_add ?_ | refine s_sub ?_ | refine s_lt ?_ | refine s_gt ?_ | refine s_le ?_ | refine s_ge ?_ | refine s_eqi ?_ | refine s_nei ?_ | refine s_eqs ?_ | refine s_nes ?_ | refine s_neg ?_ | refine s_abs ?_ | refine s_lenT ?_ | refine s_ixT (by with_unfolding_all rfl) ?_ | refine s_lenL (by assumption) ?_ | refine s_ixL (by assumption) (by with_unfolding_all rfl) ?_ | refine s_lenD (by assumption) ?_ | refine s_trL (by assumption) ?_ | refine s_cut ?_ | refine s_partN ?_ | refine s_partS ?_ | refine s_exint ?_ | refine s_cutT ?_ | refine s_cutL (by assumption) ?_ | refine s_eDct ?_ | refine s_pairs1 ?_ | refine s_pairs0 ?_ | refine s_eChain ?_ | refine s_eOrT ?_ | refine s_intB ?_ | refine s_retN ?_ | refine s_raise ?_ | refine s_ex ?_ | refine s_bk ?_ | refine s_ct ?_ | refine s_break ?_ | refine s_cont ?_ | refine s_join ?_ | refine s_exstr ?_ | refine s_get2 ?_ | refine s_append ?_ | refine s_isNon ?_ | refine s_notNon ?_ | refine s_max ?_ | refine s_min ?_ | refine s_par3 ?_ | refine s_mul (by first | assumption | exact mulOk_l (by decide) | exact mulOk_r (by decide)) ?_ | refine s_mod (by first | assumption | decide) ?_ | refine s_div (by first | assumption | exact ⟨by decide, divb_small (by decide)⟩) ?_ | refine s_yesI (by first | assumption | decide) ?_ | refine s_noI (by first | assumption | decide) ?_ | refine s_nyesI (by first | assumption | decide) ?_ | refine s_nnoI (by first | assumption | decide) ?_)))
/-! SpTd: the due answer, all deeds. -/
section
variable {m : Mem} {b bp bu : Nat} {A : St} {Q : MV → Mem → Prop} {E : Str → Mem → Prop}
end
end Sp

namespace Sp
open PySem MP MF
local macro_rules
  | `(tactic| simp! only [$xs,*]) => `(tactic| try simp only [w_seq, w_set, w_par, w_asg, w_e1, w_e2, w_tup, w_lst, w_dct0, w_call, w_aL1, w_aL0, w_tE, w_tB, w_tAnd, w_tOr, w_tNot, w_eNot, w_eIf, w_ret, w_expr, w_if, w_pass, w_raise, w_gName, w_gSub, w_gTup, w_gAll1, w_gAll0, var_zero, var_succ, run_int, run_str, run_c, Res.wp_ok, List.map_cons, List.map_nil, List.replicate_succ, List.replicate_zero, List.cons_append, List.nil_append, List.append_nil, List.set_cons_zero, List.set_cons_succ, List.length_cons, List.length_nil, o_add, o_sub, o_neg, o_abs, o_lt, o_le, o_gt, o_ge, o_eqi, o_nei, o_bl, tr_bl, o_ix0, o_ix1, o_ix2, o_ix3, o_ix4, if_bl, if_bl', true_and, and_true, decide_true, decide_false, Bool.not_true, Bool.not_false, Bool.false_eq_true, if_true, if_false, $xs,*])
  | `(tactic| simp! only [$xs,*] at $h:ident) => `(tactic| try simp only [w_seq, w_set, w_par, w_asg, w_e1, w_e2, w_tup, w_lst, w_dct0, w_call, w_aL1, w_aL0, w_tE, w_tB, w_tAnd, w_tOr, w_tNot, w_eNot, w_eIf, w_ret, w_expr, w_if, w_pass, w_raise, w_gName, w_gSub, w_gTup, w_gAll1, w_gAll0, var_zero, var_succ, run_int, run_str, run_c, Res.wp_ok, List.map_cons, List.map_nil, List.replicate_succ, List.replicate_zero, List.cons_append, List.nil_append, List.append_nil, List.set_cons_zero, List.set_cons_succ, List.length_cons, List.length_nil, o_add, o_sub, o_neg, o_abs, o_lt, o_le, o_gt, o_ge, o_eqi, o_nei, o_bl, tr_bl, o_ix0, o_ix1, o_ix2, o_ix3, o_ix4, if_bl, if_bl', true_and, and_true, decide_true, decide_false, Bool.not_true, Bool.not_false, Bool.false_eq_true, if_true, if_false, $xs,*] at $h:ident)
  | `(tactic| bv_omega) => `(tactic| repeat (with_reducible (first | refine s_ok ?_ | refine s_nx ?_ | refine s_rt ?_ | refine s_seq ?_ | refine s_set ?_ | refine s_var (by with_unfolding_all rfl) ?_ | refine s_int ?_ | refine s_str ?_ | refine s_c ?_ | refine s_e2 ?_ | refine s_e1 ?_ | refine s_call ?_ | refine s_aL1 ?_ | refine s_aL0 ?_ | refine s_tup ?_ | refine s_lst ?_ | refine s_line (by with_unfolding_all rfl) ?_ | refine s_if ?_ | refine s_tB ?_ | refine s_tE ?_ | refine s_bl ?_ | refine s_trb ?_ | refine s_tAnd ?_ | refine s_tOr ?_ | refine s_tNot ?_ | refine s_yes ?_ | refine s_eNot ?_ | refine s_eIf ?_ | refine s_eAnd ?_ | refine s_eOr ?_ | refine s_exbl ?_ | refine s_ret ?_ | refine s_expr ?_ | refine s_pass ?_ | refine s_asg ?_ | refine s_gName ?_ | refine s_gSub ?_ | refine s_gTup (by with_unfolding_all rfl) ?_ | refine s_gAll1 ?_ | refine s_gAll0 ?_ | refine s_par ?_ | refine s_dct0 ?_ | refine s_T ?_ | refine s_F ?_ | refine s_nT ?_ | refine s_nF ?_ | refine s_add ?_ | refine s_sub ?_ | refine s_lt ?_ | refine s_gt ?_ | refine s_le ?_ | refine s_ge ?_ | refine s_eqi ?_ | refine s_nei ?_ | refine s_eqs ?_ | refine s_nes ?_ | refine s_neg ?_ | refine s_abs ?_ | refine s_lenT ?_ | refine s_ixT (by with_unfolding_all rfl) ?_ | refine s_lenL (by assumption) ?_ | refine s_ixL (by assumption) (by with_unfolding_all rfl) ?_ | refine s_lenD (by assumption) ?_ | refine s_trL (by assumption) ?_ | refine s_cut ?_ | refine s_partN ?_ | refine s_partS ?_ | refine s_exint ?_ | refine s_cutT ?_ | refine s_cutL (by assumption) ?_ | refine s_eDct ?_ | refine s_pairs1 ?_ | refine s_pairs0 ?_ | refine s_eChain ?_ | refine s_eOrT ?_ | refine s_intB ?_ | refine s_retN ?_ | refine s_raise ?_ | refine s_ex ?_ | refine s_bk ?_ | refine s_ct ?_ | refine s_break ?_ | refine s_cont ?_ | refine s_join ?_ | refine s_exstr ?_ | refine s_get2 ?_ | refine s_append ?_ | refine s_isNon ?_ | refine s_notNon ?_ | refine s_max ?_ | refine s_min ?_ | refine s_par3 ?_ | refine s_mul (by first | assumption | exact mulOk_l (by decide) | exact mulOk_r (by decide)) ?_ | refine s_mod (by first | assumption | decide) ?_ | refine s_div (by first | assumption | exact ⟨by decide, divb_small (by decide)⟩) ?_ | refine s_yesI (by first | assumption | decide) ?_ | refine s_noI (by first | assumption | decide) ?_ | refine s_nyesI (by first | assumption | decide) ?_ | refine s_nnoI (by first | assumption | decide) ?_)))
/-! SpTe: a state stays well; the store does what is due. -/
inductive Like : Dd → Dd → Prop
  | same (d : Dd) : Like d d
  | tell (z : Str) {r r' : Row} (h : Alike r r') : Like (.tell (some z) (some r)) (.tell (some z) (some r'))
section
variable {Ws : List Str} {N : Nat} {m : Mem} {A : St}
end
end Sp

namespace Sp
open PySem MP MF
local macro_rules
  | `(tactic| simp! only [$xs,*]) => `(tactic| try simp only [w_seq, w_set, w_par, w_asg, w_e1, w_e2, w_tup, w_lst, w_dct0, w_call, w_aL1, w_aL0, w_tE, w_tB, w_tAnd, w_tOr, w_tNot, w_eNot, w_eIf, w_ret, w_expr, w_if, w_pass, w_raise, w_gName, w_gSub, w_gTup, w_gAll1, w_gAll0, var_zero, var_succ, run_int, run_str, run_c, Res.wp_ok, List.map_cons, List.map_nil, List.replicate_succ, List.replicate_zero, List.cons_append, List.nil_append, List.append_nil, List.set_cons_zero, List.set_cons_succ, List.length_cons, List.length_nil, o_add, o_sub, o_neg, o_abs, o_lt, o_le, o_gt, o_ge, o_eqi, o_nei, o_bl, tr_bl, o_ix0, o_ix1, o_ix2, o_ix3, o_ix4, if_bl, if_bl', true_and, and_true, decide_true, decide_false, Bool.not_true, Bool.not_false, Bool.false_eq_true, if_true, if_false, $xs,*])
  | `(tactic| simp! only [$xs,*] at $h:ident) => `(tactic| try simp only [w_seq, w_set, w_par, w_asg, w_e1, w_e2, w_tup, w_lst, w_dct0, w_call, w_aL1, w_aL0, w_tE, w_tB, w_tAnd, w_tOr, w_tNot, w_eNot, w_eIf, w_ret, w_expr, w_if, w_pass, w_raise, w_gName, w_gSub, w_gTup, w_gAll1, w_gAll0, var_zero, var_succ, run_int, run_str, run_c, Res.wp_ok, List.map_cons, List.map_nil, List.replicate_succ, List.replicate_zero, List.cons_append, List.nil_append, List.append_nil, List.set_cons_zero, List.set_cons_succ, List.length_cons, List.length_nil, o_add, o_sub, o_neg, o_abs, o_lt, o_le, o_gt, o_ge, o_eqi, o_nei, o_bl, tr_bl, o_ix0, o_ix1, o_ix2, o_ix3, o_ix4, if_bl, if_bl', true_and, and_true, decide_true, decide_false, Bool.not_true, Bool.not_false, Bool.false_eq_true, if_true, if_false, $xs,*] at $h:ident)
  | `(tactic| bv_omega) => `(tactic| repeat (with_reducible (first | refine s_ok ?_ | refine s_nx ?_ | refine s_rt ?_ | refine s_seq ?_ | refine s_set ?_ | refine s_var (by with_unfolding_all rfl) ?_ | refine s_int ?_ | refine s_str ?_ | refine s_c ?_ | refine s_e2 ?_ | refine s_e1 ?_ | refine s_call ?_ | refine s_aL1 ?_ | refine s_aL0 ?_ | refine s_tup ?_ | refine s_lst ?_ | refine s_line (by with_unfolding_all rfl) ?_ | refine s_if ?_ | refine s_tB ?_ | refine s_tE ?_ | refine s_bl ?_ | refine s_trb ?_ | refine s_tAnd ?_ | refine s_tOr ?_ | refine s_tNot ?_ | refine s_yes ?_ | refine s_eNot ?_ | refine s_eIf ?_ | refine s_eAnd ?_ | refine s_eOr ?_ | refine s_exbl ?_ | refine s_ret ?_ | refine s_expr ?_ | refine s_pass ?_ | refine s_asg ?_ | refine s_gName ?_ | refine s_gSub ?_ | refine s_gTup (by with_unfolding_all rfl) ?_ | refine s_gAll1 ?_ | refine s_gAll0 ?_ | refine s_par ?_ | refine s_dct0 ?_ | refine s_T ?_ | refine s_F ?_ | refine s_nT ?_ | refine s_nF ?_ | refine s_add ?_ | refine s_sub ?_ | refine s_lt ?_ | refine s_gt ?_ | refine s_le ?_ | refine s_ge ?_ | refine s_eqi ?_ | refine s_nei ?_ | refine s_eqs ?_ | refine s_nes ?_ | refine s_neg ?_ | refine s_abs ?_ | refine s_lenT ?_ | refine s_ixT (by with_unfolding_all rfl) ?_ | refine s_lenL (by assumption) ?_ | refine s_ixL (by assumption) (by with_unfolding_all rfl) ?_ | refine s_lenD (by assumption) ?_ | refine s_trL (by assumption) ?_ | refine s_cut ?_ | refine s_partN ?_ | refine s_partS ?_ | refine s_exint ?_ | refine s_cutT ?_ | refine s_cutL (by assumption) ?_ | refine s_eDct ?_ | refine s_pairs1 ?_ | refine s_pairs0 ?_ | refine s_eChain ?_ | refine s_eOrT ?_ | refine s_intB ?_ | refine s_retN ?_ | refine s_raise ?_ | refine s_ex ?_ | refine s_bk ?_ | refine s_ct ?_ | refine s_break ?_ | refine s_cont ?_ | refine s_join ?_ | refine s_exstr ?_ | refine s_get2 ?_ | refine s_append ?_ | refine s_isNon ?_ | refine s_notNon ?_ | refine s_max ?_ | refine s_min ?_ | refine s_par3 ?_ | refine s_mul (by first | assumption | exact mulOk_l (by decide) | exact mulOk_r (by decide)) ?_ | refine s_mod (by first | assumption | decide) ?_ | refine s_div (by first | assumption | exact ⟨by decide, divb_small (by decide)⟩) ?_ | refine s_yesI (by first | assumption | decide) ?_ | refine s_noI (by first | assumption | decide) ?_ | refine s_nyesI (by first | assumption | decide) ?_ | refine s_nnoI (by first | assumption | decide) ?_)))
/-! SpTf: what the store does with a deed, asked by the law. -/
section
variable {m : Mem} {s pp pu : Nat} {A : St} {Q : MV → Mem → Prop} {E : Str → Mem → Prop}
abbrev DoneQ (Ws : List Str) (N : Nat) (m : Mem) (s pp pu : Nat) (A : St) (d : Dd) (Q : MV → Mem → Prop) : Prop := ∀ m' pu' d', Like d d' → SR m' s (act A d').2 pp pu' → (pu' = pu ∨ m.length ≤ pu') → Kx [s, pp, pu] m m' → m.length ≤ m'.length → StOk Ws (N + 1) m' (act A d').2 → Q (.str (act A d').1) m'
theorem DoneQ.stay {Ws : List Str} {N : Nat} {m1 : Mem} {d : Dd} {c : Str} (h : DoneQ Ws N m s pp pu A d Q) (e : act A d = (c, A)) (R : SR m s A pp pu) (ok : StOk Ws N m A) (x : Ext m m1) : Q (.str c) m1 := by
  have := h m1 pu d (.same d) (by rw [e]; exact R.ext x) (.inl rfl) (x.kx _) x.len (by rw [e]; exact (ok.kd x.kd).mono (Nat.le_succ N))
  rw [e] at this
  exact this
end
end Sp

namespace Sp
open PySem MP MF
local macro_rules
  | `(tactic| simp! only [$xs,*]) => `(tactic| try simp only [w_seq, w_set, w_par, w_asg, w_e1, w_e2, w_tup, w_lst, w_dct0, w_call, w_aL1, w_aL0, w_tE, w_tB, w_tAnd, w_tOr, w_tNot, w_eNot, w_eIf, w_ret, w_expr, w_if, w_pass, w_raise, w_gName, w_gSub, w_gTup, w_gAll1, w_gAll0, var_zero, var_succ, run_int, run_str, run_c, Res.wp_ok, List.map_cons, List.map_nil, List.replicate_succ, List.replicate_zero, List.cons_append, List.nil_append, List.append_nil, List.set_cons_zero, List.set_cons_succ, List.length_cons, List.length_nil, o_add, o_sub, o_neg, o_abs, o_lt, o_le, o_gt, o_ge, o_eqi, o_nei, o_bl, tr_bl, o_ix0, o_ix1, o_ix2, o_ix3, o_ix4, if_bl, if_bl', true_and, and_true, decide_true, decide_false, Bool.not_true, Bool.not_false, Bool.false_eq_true, if_true, if_false, $xs,*])
  | `(tactic| simp! only [$xs,*] at $h:ident) => `(tactic| try simp only [w_seq, w_set, w_par, w_asg, w_e1, w_e2, w_tup, w_lst, w_dct0, w_call, w_aL1, w_aL0, w_tE, w_tB, w_tAnd, w_tOr, w_tNot, w_eNot, w_eIf, w_ret, w_expr, w_if, w_pass, w_raise, w_gName, w_gSub, w_gTup, w_gAll1, w_gAll0, var_zero, var_succ, run_int, run_str, run_c, Res.wp_ok, List.map_cons, List.map_nil, List.replicate_succ, List.replicate_zero, List.cons_append, List.nil_append, List.append_nil, List.set_cons_zero, List.set_cons_succ, List.length_cons, List.length_nil, o_add, o_sub, o_neg, o_abs, o_lt, o_le, o_gt, o_ge, o_eqi, o_nei, o_bl, tr_bl, o_ix0, o_ix1, o_ix2, o_ix3, o_ix4, if_bl, if_bl', true_and, and_true, decide_true, decide_false, Bool.not_true, Bool.not_false, Bool.false_eq_true, if_true, if_false, $xs,*] at $h:ident)
  | `(tactic| bv_omega) => `(tactic| repeat (with_reducible (first | refine s_ok ?_ | refine s_nx ?_ | refine s_rt ?_ | refine s_seq ?_ | refine s_set ?_ | refine s_var (by with_unfolding_all rfl) ?_ | refine s_int ?_ | refine s_str ?_ | refine s_c ?_ | refine s_e2 ?_ | refine s_e1 ?_ | refine s_call ?_ | refine s_aL1 ?_ | refine s_aL0 ?_ | refine s_tup ?_ | refine s_lst ?_ | refine s_line (by with_unfolding_all rfl) ?_ | refine s_if ?_ | refine s_tB ?_ | refine s_tE ?_ | refine s_bl ?_ | refine s_trb ?_ | refine s_tAnd ?_ | refine s_tOr ?_ | refine s_tNot ?_ | refine s_yes ?_ | refine s_eNot ?_ | refine s_eIf ?_ | refine s_eAnd ?_ | refine s_eOr ?_ | refine s_exbl ?_ | refine s_ret ?_ | refine s_expr ?_ | refine s_pass ?_ | refine s_asg ?_ | refine s_gName ?_ | refine s_gSub ?_ | refine s_gTup (by with_unfolding_all rfl) ?_ | refine s_gAll1 ?_ | refine s_gAll0 ?_ | refine s_par ?_ | refine s_dct0 ?_ | refine s_T ?_ | refine s_F ?_ | refine s_nT ?_ | refine s_nF ?_ | refine s_add ?_ | refine s_sub ?_ | refine s_lt ?_ | refine s_gt ?_ | refine s_le ?_ | refine s_ge ?_ | refine s_eqi ?_ | refine s_nei ?_ | refine s_eqs ?_ | refine s_nes ?_ | refine s_neg ?_ | refine s_abs ?_ | refine s_lenT ?_ | refine s_ixT (by with_unfolding_all rfl) ?_ | refine s_lenL (by assumption) ?_ | refine s_ixL (by assumption) (by with_unfolding_all rfl) ?_ | refine s_lenD (by assumption) ?_ | refine s_trL (by assumption) ?_ | refine s_cut ?_ | refine s_partN ?_ | refine s_partS ?_ | refine s_exint ?_ | refine s_cutT ?_ | refine s_cutL (by assumption) ?_ | refine s_eDct ?_ | refine s_pairs1 ?_ | refine s_pairs0 ?_ | refine s_eChain ?_ | refine s_eOrT ?_ | refine s_intB ?_ | refine s_retN ?_ | refine s_raise ?_ | refine s_ex ?_ | refine s_bk ?_ | refine s_ct ?_ | refine s_break ?_ | refine s_cont ?_ | refine s_join ?_ | refine s_exstr ?_ | refine s_get2 ?_ | refine s_append ?_ | refine s_isNon ?_ | refine s_notNon ?_ | refine s_max ?_ | refine s_min ?_ | refine s_par3 ?_ | refine s_mul (by first | assumption | exact mulOk_l (by decide) | exact mulOk_r (by decide)) ?_ | refine s_mod (by first | assumption | decide) ?_ | refine s_div (by first | assumption | exact ⟨by decide, divb_small (by decide)⟩) ?_ | refine s_yesI (by first | assumption | decide) ?_ | refine s_noI (by first | assumption | decide) ?_ | refine s_nyesI (by first | assumption | decide) ?_ | refine s_nnoI (by first | assumption | decide) ?_)))
/-! SpTg: the law asks how a store stands. -/
section
variable {m : Mem} {s pp pu b bp bu : Nat} {A : St} {Q : MV → Mem → Prop} {E : Str → Mem → Prop}
theorem eqF_lst (d : Nat) {m : Mem} {a b : Nat} {xs ys : List MV} (h1 : m[a]? = some (.lst xs)) (h2 : m[b]? = some (.lst ys)) (hl : xs.length = ys.length) (e : eqL (eqF d m) xs ys = some true) : eqF (d + 1) m (.ref a) (.ref b) = some true := by
  unfold eqF
  simp only [h1, h2]
  by_cases z : a = b
  · rw [if_pos z]
  · rw [if_neg z, if_pos hl, e]
theorem o_neLst {m : Mem} {a b : Nat} {xs ys : List MV} (h1 : m[a]? = some (.lst xs)) (h2 : m[b]? = some (.lst ys)) (hl : xs.length = ys.length) (e : eqL (eqF 23 m) xs ys = some true) : oNe (.ref a) (.ref b) m = .ok (.bl false) m := by
  unfold oNe neF
  have k1 : kd m (.ref a) = some .lst := by unfold kd; simp only [h1]
  have k2 : kd m (.ref b) = some .lst := by unfold kd; simp only [h2]
  rw [k1, k2]
  simp only [if_true]
  rw [show DEEP = 23 + 1 from rfl, eqF_lst 23 h1 h2 hl e]
  rfl
end
end Sp

namespace Sp
open PySem MP MF
local macro_rules
  | `(tactic| simp! only [$xs,*]) => `(tactic| try simp only [w_seq, w_set, w_par, w_asg, w_e1, w_e2, w_tup, w_lst, w_dct0, w_call, w_aL1, w_aL0, w_tE, w_tB, w_tAnd, w_tOr, w_tNot, w_eNot, w_eIf, w_ret, w_expr, w_if, w_pass, w_raise, w_gName, w_gSub, w_gTup, w_gAll1, w_gAll0, var_zero, var_succ, run_int, run_str, run_c, Res.wp_ok, List.map_cons, List.map_nil, List.replicate_succ, List.replicate_zero, List.cons_append, List.nil_append, List.append_nil, List.set_cons_zero, List.set_cons_succ, List.length_cons, List.length_nil, o_add, o_sub, o_neg, o_abs, o_lt, o_le, o_gt, o_ge, o_eqi, o_nei, o_bl, tr_bl, o_ix0, o_ix1, o_ix2, o_ix3, o_ix4, if_bl, if_bl', true_and, and_true, decide_true, decide_false, Bool.not_true, Bool.not_false, Bool.false_eq_true, if_true, if_false, $xs,*])
  | `(tactic| simp! only [$xs,*] at $h:ident) => `(tactic| try simp only [w_seq, w_set, w_par, w_asg, w_e1, w_e2, w_tup, w_lst, w_dct0, w_call, w_aL1, w_aL0, w_tE, w_tB, w_tAnd, w_tOr, w_tNot, w_eNot, w_eIf, w_ret, w_expr, w_if, w_pass, w_raise, w_gName, w_gSub, w_gTup, w_gAll1, w_gAll0, var_zero, var_succ, run_int, run_str, run_c, Res.wp_ok, List.map_cons, List.map_nil, List.replicate_succ, List.replicate_zero, List.cons_append, List.nil_append, List.append_nil, List.set_cons_zero, List.set_cons_succ, List.length_cons, List.length_nil, o_add, o_sub, o_neg, o_abs, o_lt, o_le, o_gt, o_ge, o_eqi, o_nei, o_bl, tr_bl, o_ix0, o_ix1, o_ix2, o_ix3, o_ix4, if_bl, if_bl', true_and, and_true, decide_true, decide_false, Bool.not_true, Bool.not_false, Bool.false_eq_true, if_true, if_false, $xs,*] at $h:ident)
  | `(tactic| bv_omega) => `(tactic| repeat (with_reducible (first | refine s_ok ?_ | refine s_nx ?_ | refine s_rt ?_ | refine s_seq ?_ | refine s_set ?_ | refine s_var (by with_unfolding_all rfl) ?_ | refine s_int ?_ | refine s_str ?_ | refine s_c ?_ | refine s_e2 ?_ | refine s_e1 ?_ | refine s_call ?_ | refine s_aL1 ?_ | refine s_aL0 ?_ | refine s_tup ?_ | refine s_lst ?_ | refine s_line (by with_unfolding_all rfl) ?_ | refine s_if ?_ | refine s_tB ?_ | refine s_tE ?_ | refine s_bl ?_ | refine s_trb ?_ | refine s_tAnd ?_ | refine s_tOr ?_ | refine s_tNot ?_ | refine s_yes ?_ | refine s_eNot ?_ | refine s_eIf ?_ | refine s_eAnd ?_ | refine s_eOr ?_ | refine s_exbl ?_ | refine s_ret ?_ | refine s_expr ?_ | refine s_pass ?_ | refine s_asg ?_ | refine s_gName ?_ | refine s_gSub ?_ | refine s_gTup (by with_unfolding_all rfl) ?_ | refine s_gAll1 ?_ | refine s_gAll0 ?_ | refine s_par ?_ | refine s_dct0 ?_ | refine s_T ?_ | refine s_F ?_ | refine s_nT ?_ | refine s_nF ?_ | refine s_add ?_ | refine s_sub ?_ | refine s_lt ?_ | refine s_gt ?_ | refine s_le ?_ | refine s_ge ?_ | refine s_eqi ?_ | refine s_nei ?_ | refine s_eqs ?_ | refine s_nes ?_ | refine s_neg ?_ | refine s_abs ?_ | refine s_lenT ?_ | refine s_ixT (by with_unfolding_all rfl) ?_ | refine s_lenL (by assumption) ?_ | refine s_ixL (by assumption) (by with_unfolding_all rfl) ?_ | refine s_lenD (by assumption) ?_ | refine s_trL (by assumption) ?_ | refine s_cut ?_ | refine s_partN ?_ | refine s_partS ?_ | refine s_exint ?_ | refine s_cutT ?_ | refine s_cutL (by assumption) ?_ | refine s_eDct ?_ | refine s_pairs1 ?_ | refine s_pairs0 ?_ | refine s_eChain ?_ | refine s_eOrT ?_ | refine s_intB ?_ | refine s_retN ?_ | refine s_raise ?_ | refine s_ex ?_ | refine s_bk ?_ | refine s_ct ?_ | refine s_break ?_ | refine s_cont ?_ | refine s_join ?_ | refine s_exstr ?_ | refine s_get2 ?_ | refine s_append ?_ | refine s_isNon ?_ | refine s_notNon ?_ | refine s_max ?_ | refine s_min ?_ | refine s_par3 ?_ | refine s_mul (by first | assumption | exact mulOk_l (by decide) | exact mulOk_r (by decide)) ?_ | refine s_mod (by first | assumption | decide) ?_ | refine s_div (by first | assumption | exact ⟨by decide, divb_small (by decide)⟩) ?_ | refine s_yesI (by first | assumption | decide) ?_ | refine s_noI (by first | assumption | decide) ?_ | refine s_nyesI (by first | assumption | decide) ?_ | refine s_nnoI (by first | assumption | decide) ?_)))
/-! SpTh: a history's names, words, rows; deeds drawn. -/
section
variable {m : Mem} {n c : Nat} {Q : MV → Mem → Prop} {E : Str → Mem → Prop}
/-- names, words, rows -/
structure Pool (m : Mem) (n a b k : Nat) (ns ws : List Str) (rs : List Row) : Prop where
  a_ : m[a]? = some (.lst (ns.map MV.str))
  b_ : m[b]? = some (.lst (ws.map MV.str))
  k_ : m[k]? = some (.lst (rs.map Row.p))
  na : a ≠ n
  nb : b ≠ n
  nk : k ≠ n
  nsi : ∀ s ∈ ns, IsName s
  wsi : ∀ s ∈ ws, IsName s
  rsi : ∀ r ∈ rs, RowOk m r
  nl : 2 ≤ ns.length ∧ ns.length ≤ 10
  wl : 1 ≤ ws.length ∧ ws.length ≤ 3
  rl : 3 ≤ rs.length ∧ rs.length ≤ 8
  wn : ws.Nodup
theorem Pool.keep {m' : Mem} {a b k : Nat} {ns ws : List Str} {rs : List Row} (P : Pool m n a b k ns ws rs) {L : Nat} (h : ∀ (j : Nat) (o : MO), m[j]? = some o → j < L → j ≠ n → m'[j]? = some o) (ha : a < L) (hb : b < L) (hk : k < L) (kd : Kd m m') : Pool m' n a b k ns ws rs :=
  ⟨h _ _ P.a_ ha P.na, h _ _ P.b_ hb P.nb, h _ _ P.k_ hk P.nk, P.na, P.nb, P.nk, P.nsi, P.wsi, fun r hr => (P.rsi r hr).kd kd, P.nl, P.wl, P.rl, P.wn⟩
end
end Sp

namespace Sp
open PySem MP MF
local macro_rules
  | `(tactic| simp! only [$xs,*]) => `(tactic| try simp only [w_seq, w_set, w_par, w_asg, w_e1, w_e2, w_tup, w_lst, w_dct0, w_call, w_aL1, w_aL0, w_tE, w_tB, w_tAnd, w_tOr, w_tNot, w_eNot, w_eIf, w_ret, w_expr, w_if, w_pass, w_raise, w_gName, w_gSub, w_gTup, w_gAll1, w_gAll0, var_zero, var_succ, run_int, run_str, run_c, Res.wp_ok, List.map_cons, List.map_nil, List.replicate_succ, List.replicate_zero, List.cons_append, List.nil_append, List.append_nil, List.set_cons_zero, List.set_cons_succ, List.length_cons, List.length_nil, o_add, o_sub, o_neg, o_abs, o_lt, o_le, o_gt, o_ge, o_eqi, o_nei, o_bl, tr_bl, o_ix0, o_ix1, o_ix2, o_ix3, o_ix4, if_bl, if_bl', true_and, and_true, decide_true, decide_false, Bool.not_true, Bool.not_false, Bool.false_eq_true, if_true, if_false, $xs,*])
  | `(tactic| simp! only [$xs,*] at $h:ident) => `(tactic| try simp only [w_seq, w_set, w_par, w_asg, w_e1, w_e2, w_tup, w_lst, w_dct0, w_call, w_aL1, w_aL0, w_tE, w_tB, w_tAnd, w_tOr, w_tNot, w_eNot, w_eIf, w_ret, w_expr, w_if, w_pass, w_raise, w_gName, w_gSub, w_gTup, w_gAll1, w_gAll0, var_zero, var_succ, run_int, run_str, run_c, Res.wp_ok, List.map_cons, List.map_nil, List.replicate_succ, List.replicate_zero, List.cons_append, List.nil_append, List.append_nil, List.set_cons_zero, List.set_cons_succ, List.length_cons, List.length_nil, o_add, o_sub, o_neg, o_abs, o_lt, o_le, o_gt, o_ge, o_eqi, o_nei, o_bl, tr_bl, o_ix0, o_ix1, o_ix2, o_ix3, o_ix4, if_bl, if_bl', true_and, and_true, decide_true, decide_false, Bool.not_true, Bool.not_false, Bool.false_eq_true, if_true, if_false, $xs,*] at $h:ident)
  | `(tactic| bv_omega) => `(tactic| repeat (with_reducible (first | refine s_ok ?_ | refine s_nx ?_ | refine s_rt ?_ | refine s_seq ?_ | refine s_set ?_ | refine s_var (by with_unfolding_all rfl) ?_ | refine s_int ?_ | refine s_str ?_ | refine s_c ?_ | refine s_e2 ?_ | refine s_e1 ?_ | refine s_call ?_ | refine s_aL1 ?_ | refine s_aL0 ?_ | refine s_tup ?_ | refine s_lst ?_ | refine s_line (by with_unfolding_all rfl) ?_ | refine s_if ?_ | refine s_tB ?_ | refine s_tE ?_ | refine s_bl ?_ | refine s_trb ?_ | refine s_tAnd ?_ | refine s_tOr ?_ | refine s_tNot ?_ | refine s_yes ?_ | refine s_eNot ?_ | refine s_eIf ?_ | refine s_eAnd ?_ | refine s_eOr ?_ | refine s_exbl ?_ | refine s_ret ?_ | refine s_expr ?_ | refine s_pass ?_ | refine s_asg ?_ | refine s_gName ?_ | refine s_gSub ?_ | refine s_gTup (by with_unfolding_all rfl) ?_ | refine s_gAll1 ?_ | refine s_gAll0 ?_ | refine s_par ?_ | refine s_dct0 ?_ | refine s_T ?_ | refine s_F ?_ | refine s_nT ?_ | refine s_nF ?_ | refine s_add ?_ | refine s_sub ?_ | refine s_lt ?_ | refine s_gt ?_ | refine s_le ?_ | refine s_ge ?_ | refine s_eqi ?_ | refine s_nei ?_ | refine s_eqs ?_ | refine s_nes ?_ | refine s_neg ?_ | refine s_abs ?_ | refine s_lenT ?_ | refine s_ixT (by with_unfolding_all rfl) ?_ | refine s_lenL (by assumption) ?_ | refine s_ixL (by assumption) (by with_unfolding_all rfl) ?_ | refine s_lenD (by assumption) ?_ | refine s_trL (by assumption) ?_ | refine s_cut ?_ | refine s_partN ?_ | refine s_partS ?_ | refine s_exint ?_ | refine s_cutT ?_ | refine s_cutL (by assumption) ?_ | refine s_eDct ?_ | refine s_pairs1 ?_ | refine s_pairs0 ?_ | refine s_eChain ?_ | refine s_eOrT ?_ | refine s_intB ?_ | refine s_retN ?_ | refine s_raise ?_ | refine s_ex ?_ | refine s_bk ?_ | refine s_ct ?_ | refine s_break ?_ | refine s_cont ?_ | refine s_join ?_ | refine s_exstr ?_ | refine s_get2 ?_ | refine s_append ?_ | refine s_isNon ?_ | refine s_notNon ?_ | refine s_max ?_ | refine s_min ?_ | refine s_par3 ?_ | refine s_mul (by first | assumption | exact mulOk_l (by decide) | exact mulOk_r (by decide)) ?_ | refine s_mod (by first | assumption | decide) ?_ | refine s_div (by first | assumption | exact ⟨by decide, divb_small (by decide)⟩) ?_ | refine s_yesI (by first | assumption | decide) ?_ | refine s_noI (by first | assumption | decide) ?_ | refine s_nyesI (by first | assumption | decide) ?_ | refine s_nnoI (by first | assumption | decide) ?_)))
/-! SpTi: a drawn deed; store and book side by side. -/
def Good (Ws : List Str) (m : Mem) (v : MV) : Prop := ∃ d, ∀ m', Kd m m' → DeedR Ws m' v d
theorem Good.kd {Ws : List Str} {m m' : Mem} {v : MV} (h : Good Ws m v) (k : Kd m m') : Good Ws m' v := let ⟨d, hd⟩ := h; ⟨d, fun m2 k2 => hd m2 (k.trans k2)⟩
theorem Sta.kd {n c : Nat} {m m' : Mem} (S : Sta n c m) (K : Keep n m m') : Kd m m' := by
  obtain ⟨_, _, _, _, S0⟩ := S
  exact Kd.keep K S0.st
theorem Sta.kx {n c : Nat} {m m' : Mem} (S : Sta n c m) {D : List Nat} (K : Kx D m m') (h1 : n ∉ D) (h2 : c ∉ D) : Sta n c m' := by
  obtain ⟨cells, a, num, fl, S0⟩ := S
  exact ⟨cells, a, num, fl, K _ _ S0.st h1, K _ _ S0.ce h2, S0.ne, S0.le, S0.a0, S0.n0⟩
theorem Pool.kx {m m' : Mem} {n a b k : Nat} {ns ws : List Str} {rs : List Row} (P : Pool m n a b k ns ws rs) {D : List Nat} (K : Kx D m m') (ha : a ∉ D) (hb : b ∉ D) (hk : k ∉ D) (kd : Kd m m') : Pool m' n a b k ns ws rs :=
  ⟨K _ _ P.a_ ha, K _ _ P.b_ hb, K _ _ P.k_ hk, P.na, P.nb, P.nk, P.nsi, P.wsi, fun r hr => (P.rsi r hr).kd kd, P.nl, P.wl, P.rl, P.wn⟩
section
variable {m : Mem} {n c : Nat} {Q : MV → Mem → Prop} {E : Str → Mem → Prop}
end
/-! ### side by side -/
structure J (Ws : List Str) (N L : Nat) (m : Mem) (s b pp pu bp bu : Nat) (A : St) : Prop where
  S : SR m s A pp pu
  B : BR m b A bp bu
  ok : StOk Ws N m A
  low : ∀ d ∈ [s, pp, pu, b, bp, bu], L ≤ d
  sep : ∀ d ∈ [b, bp, bu], d ∉ [s, pp, pu]
section
variable {Ws : List Str} {N L : Nat} {m : Mem} {s b pp pu bp bu : Nat} {A : St}
theorem J.kx (j : J Ws N L m s b pp pu bp bu A) {m' : Mem} {D : List Nat} (K : Kx D m m') (hD : ∀ d ∈ D, d < L) (kd : Kd m m') : J Ws N L m' s b pp pu bp bu A := by
  have hn : ∀ d ∈ [s, pp, pu, b, bp, bu], d ∉ D := fun d hd h => by have := j.low d hd; have := hD d h; omega
  exact ⟨j.S.keep K (hn _ (by simp)) (hn _ (by simp)) (hn _ (by simp)), j.B.keep K (hn _ (by simp)) (hn _ (by simp)) (hn _ (by simp)), j.ok.kd kd, j.low, j.sep⟩
theorem J.ext (j : J Ws N L m s b pp pu bp bu A) {m' : Mem} (x : Ext m m') : J Ws N L m' s b pp pu bp bu A := ⟨j.S.ext x, j.B.ext x, j.ok.kd x.kd, j.low, j.sep⟩
theorem J.keep (j : J Ws N L m s b pp pu bp bu A) {m' : Mem} {n c : Nat} (S : Sta n c m) (K : Keep n m m') (hn : n < L) : J Ws N L m' s b pp pu bp bu A :=
  j.kx (D := [n]) (fun k o e h => K k o (fun z => h (by rw [z]; simp)) e) (fun d hd => by rw [List.mem_singleton] at hd; omega) (S.kd K)
end
end Sp

namespace Sp
open PySem MP MF
local macro_rules
  | `(tactic| simp! only [$xs,*]) => `(tactic| try simp only [w_seq, w_set, w_par, w_asg, w_e1, w_e2, w_tup, w_lst, w_dct0, w_call, w_aL1, w_aL0, w_tE, w_tB, w_tAnd, w_tOr, w_tNot, w_eNot, w_eIf, w_ret, w_expr, w_if, w_pass, w_raise, w_gName, w_gSub, w_gTup, w_gAll1, w_gAll0, var_zero, var_succ, run_int, run_str, run_c, Res.wp_ok, List.map_cons, List.map_nil, List.replicate_succ, List.replicate_zero, List.cons_append, List.nil_append, List.append_nil, List.set_cons_zero, List.set_cons_succ, List.length_cons, List.length_nil, o_add, o_sub, o_neg, o_abs, o_lt, o_le, o_gt, o_ge, o_eqi, o_nei, o_bl, tr_bl, o_ix0, o_ix1, o_ix2, o_ix3, o_ix4, if_bl, if_bl', true_and, and_true, decide_true, decide_false, Bool.not_true, Bool.not_false, Bool.false_eq_true, if_true, if_false, $xs,*])
  | `(tactic| simp! only [$xs,*] at $h:ident) => `(tactic| try simp only [w_seq, w_set, w_par, w_asg, w_e1, w_e2, w_tup, w_lst, w_dct0, w_call, w_aL1, w_aL0, w_tE, w_tB, w_tAnd, w_tOr, w_tNot, w_eNot, w_eIf, w_ret, w_expr, w_if, w_pass, w_raise, w_gName, w_gSub, w_gTup, w_gAll1, w_gAll0, var_zero, var_succ, run_int, run_str, run_c, Res.wp_ok, List.map_cons, List.map_nil, List.replicate_succ, List.replicate_zero, List.cons_append, List.nil_append, List.append_nil, List.set_cons_zero, List.set_cons_succ, List.length_cons, List.length_nil, o_add, o_sub, o_neg, o_abs, o_lt, o_le, o_gt, o_ge, o_eqi, o_nei, o_bl, tr_bl, o_ix0, o_ix1, o_ix2, o_ix3, o_ix4, if_bl, if_bl', true_and, and_true, decide_true, decide_false, Bool.not_true, Bool.not_false, Bool.false_eq_true, if_true, if_false, $xs,*] at $h:ident)
  | `(tactic| bv_omega) => `(tactic| repeat (with_reducible (first | refine s_ok ?_ | refine s_nx ?_ | refine s_rt ?_ | refine s_seq ?_ | refine s_set ?_ | refine s_var (by with_unfolding_all rfl) ?_ | refine s_int ?_ | refine s_str ?_ | refine s_c ?_ | refine s_e2 ?_ | refine s_e1 ?_ | refine s_call ?_ | refine s_aL1 ?_ | refine s_aL0 ?_ | refine s_tup ?_ | refine s_lst ?_ | refine s_line (by with_unfolding_all rfl) ?_ | refine s_if ?_ | refine s_tB ?_ | refine s_tE ?_ | refine s_bl ?_ | refine s_trb ?_ | refine s_tAnd ?_ | refine s_tOr ?_ | refine s_tNot ?_ | refine s_yes ?_ | refine s_eNot ?_ | refine s_eIf ?_ | refine s_eAnd ?_ | refine s_eOr ?_ | refine s_exbl ?_ | refine s_ret ?_ | refine s_expr ?_ | refine s_pass ?_ | refine s_asg ?_ | refine s_gName ?_ | refine s_gSub ?_ | refine s_gTup (by with_unfolding_all rfl) ?_ | refine s_gAll1 ?_ | refine s_gAll0 ?_ | refine s_par ?_ | refine s_dct0 ?_ | refine s_T ?_ | refine s_F ?_ | refine s_nT ?_ | refine s_nF ?_ | refine s_add ?_ | refine s_sub ?_ | refine s_lt ?_ | refine s_gt ?_ | refine s_le ?_ | refine s_ge ?_ | refine s_eqi ?_ | refine s_nei ?_ | refine s_eqs ?_ | refine s_nes ?_ | refine s_neg ?_ | refine s_abs ?_ | refine s_lenT ?_ | refine s_ixT (by with_unfolding_all rfl) ?_ | refine s_lenL (by assumption) ?_ | refine s_ixL (by assumption) (by with_unfolding_all rfl) ?_ | refine s_lenD (by assumption) ?_ | refine s_trL (by assumption) ?_ | refine s_cut ?_ | refine s_partN ?_ | refine s_partS ?_ | refine s_exint ?_ | refine s_cutT ?_ | refine s_cutL (by assumption) ?_ | refine s_eDct ?_ | refine s_pairs1 ?_ | refine s_pairs0 ?_ | refine s_eChain ?_ | refine s_eOrT ?_ | refine s_intB ?_ | refine s_retN ?_ | refine s_raise ?_ | refine s_ex ?_ | refine s_bk ?_ | refine s_ct ?_ | refine s_break ?_ | refine s_cont ?_ | refine s_join ?_ | refine s_exstr ?_ | refine s_get2 ?_ | refine s_append ?_ | refine s_isNon ?_ | refine s_notNon ?_ | refine s_max ?_ | refine s_min ?_ | refine s_par3 ?_ | refine s_mul (by first | assumption | exact mulOk_l (by decide) | exact mulOk_r (by decide)) ?_ | refine s_mod (by first | assumption | decide) ?_ | refine s_div (by first | assumption | exact ⟨by decide, divb_small (by decide)⟩) ?_ | refine s_yesI (by first | assumption | decide) ?_ | refine s_noI (by first | assumption | decide) ?_ | refine s_nyesI (by first | assumption | decide) ?_ | refine s_nnoI (by first | assumption | decide) ?_)))
/-! SpTj: a new store and its book. -/
section
variable {Ws : List Str} {L : Nat} {m1 : Mem} {s pp pu : Nat}
end
end Sp

namespace Sp
open PySem MP MF
local macro_rules
  | `(tactic| simp! only [$xs,*]) => `(tactic| try simp only [w_seq, w_set, w_par, w_asg, w_e1, w_e2, w_tup, w_lst, w_dct0, w_call, w_aL1, w_aL0, w_tE, w_tB, w_tAnd, w_tOr, w_tNot, w_eNot, w_eIf, w_ret, w_expr, w_if, w_pass, w_raise, w_gName, w_gSub, w_gTup, w_gAll1, w_gAll0, var_zero, var_succ, run_int, run_str, run_c, Res.wp_ok, List.map_cons, List.map_nil, List.replicate_succ, List.replicate_zero, List.cons_append, List.nil_append, List.append_nil, List.set_cons_zero, List.set_cons_succ, List.length_cons, List.length_nil, o_add, o_sub, o_neg, o_abs, o_lt, o_le, o_gt, o_ge, o_eqi, o_nei, o_bl, tr_bl, o_ix0, o_ix1, o_ix2, o_ix3, o_ix4, if_bl, if_bl', true_and, and_true, decide_true, decide_false, Bool.not_true, Bool.not_false, Bool.false_eq_true, if_true, if_false, $xs,*])
  | `(tactic| simp! only [$xs,*] at $h:ident) => `(tactic| try simp only [w_seq, w_set, w_par, w_asg, w_e1, w_e2, w_tup, w_lst, w_dct0, w_call, w_aL1, w_aL0, w_tE, w_tB, w_tAnd, w_tOr, w_tNot, w_eNot, w_eIf, w_ret, w_expr, w_if, w_pass, w_raise, w_gName, w_gSub, w_gTup, w_gAll1, w_gAll0, var_zero, var_succ, run_int, run_str, run_c, Res.wp_ok, List.map_cons, List.map_nil, List.replicate_succ, List.replicate_zero, List.cons_append, List.nil_append, List.append_nil, List.set_cons_zero, List.set_cons_succ, List.length_cons, List.length_nil, o_add, o_sub, o_neg, o_abs, o_lt, o_le, o_gt, o_ge, o_eqi, o_nei, o_bl, tr_bl, o_ix0, o_ix1, o_ix2, o_ix3, o_ix4, if_bl, if_bl', true_and, and_true, decide_true, decide_false, Bool.not_true, Bool.not_false, Bool.false_eq_true, if_true, if_false, $xs,*] at $h:ident)
  | `(tactic| bv_omega) => `(tactic| repeat (with_reducible (first | refine s_ok ?_ | refine s_nx ?_ | refine s_rt ?_ | refine s_seq ?_ | refine s_set ?_ | refine s_var (by with_unfolding_all rfl) ?_ | refine s_int ?_ | refine s_str ?_ | refine s_c ?_ | refine s_e2 ?_ | refine s_e1 ?_ | refine s_call ?_ | refine s_aL1 ?_ | refine s_aL0 ?_ | refine s_tup ?_ | refine s_lst ?_ | refine s_line (by with_unfolding_all rfl) ?_ | refine s_if ?_ | refine s_tB ?_ | refine s_tE ?_ | refine s_bl ?_ | refine s_trb ?_ | refine s_tAnd ?_ | refine s_tOr ?_ | refine s_tNot ?_ | refine s_yes ?_ | refine s_eNot ?_ | refine s_eIf ?_ | refine s_eAnd ?_ | refine s_eOr ?_ | refine s_exbl ?_ | refine s_ret ?_ | refine s_expr ?_ | refine s_pass ?_ | refine s_asg ?_ | refine s_gName ?_ | refine s_gSub ?_ | refine s_gTup (by with_unfolding_all rfl) ?_ | refine s_gAll1 ?_ | refine s_gAll0 ?_ | refine s_par ?_ | refine s_dct0 ?_ | refine s_T ?_ | refine s_F ?_ | refine s_nT ?_ | refine s_nF ?_ | refine s_add ?_ | refine s_sub ?_ | refine s_lt ?_ | refine s_gt ?_ | refine s_le ?_ | refine s_ge ?_ | refine s_eqi ?_ | refine s_nei ?_ | refine s_eqs ?_ | refine s_nes ?_ | refine s_neg ?_ | refine s_abs ?_ | refine s_lenT ?_ | refine s_ixT (by with_unfolding_all rfl) ?_ | refine s_lenL (by assumption) ?_ | refine s_ixL (by assumption) (by with_unfolding_all rfl) ?_ | refine s_lenD (by assumption) ?_ | refine s_trL (by assumption) ?_ | refine s_cut ?_ | refine s_partN ?_ | refine s_partS ?_ | refine s_exint ?_ | refine s_cutT ?_ | refine s_cutL (by assumption) ?_ | refine s_eDct ?_ | refine s_pairs1 ?_ | refine s_pairs0 ?_ | refine s_eChain ?_ | refine s_eOrT ?_ | refine s_intB ?_ | refine s_retN ?_ | refine s_raise ?_ | refine s_ex ?_ | refine s_bk ?_ | refine s_ct ?_ | refine s_break ?_ | refine s_cont ?_ | refine s_join ?_ | refine s_exstr ?_ | refine s_get2 ?_ | refine s_append ?_ | refine s_isNon ?_ | refine s_notNon ?_ | refine s_max ?_ | refine s_min ?_ | refine s_par3 ?_ | refine s_mul (by first | assumption | exact mulOk_l (by decide) | exact mulOk_r (by decide)) ?_ | refine s_mod (by first | assumption | decide) ?_ | refine s_div (by first | assumption | exact ⟨by decide, divb_small (by decide)⟩) ?_ | refine s_yesI (by first | assumption | decide) ?_ | refine s_noI (by first | assumption | decide) ?_ | refine s_nyesI (by first | assumption | decide) ?_ | refine s_nnoI (by first | assumption | decide) ?_)))
/-! SpTk: strange words. -/
inductive Odd (m : Mem) (q0 : Nat) : MV → Prop
  | non : Odd m q0 .non
  | int (i : Int) : Odd m q0 (.int i)
  | tup : Odd m q0 (.tup [.str "a"])
  | str (z : Str) (h : nameB (.str z) = false) (hl : z.length ≤ LINE) : Odd m q0 (.str z)
  | lst (q : Nat) (hq : q0 ≤ q) (h : m[q]? = some (.lst [.str "a"])) : Odd m q0 (.ref q)
  | dct (q : Nat) (hq : q0 ≤ q) (h : m[q]? = some (.dct false [])) : Odd m q0 (.ref q)
theorem Odd.kx {m m' : Mem} {q0 : Nat} {x : MV} (o : Odd m q0 x) {D : List Nat} (K : Kx D m m') (hD : ∀ d ∈ D, d < q0) : Odd m' q0 x := by
  cases o with
  | non => exact .non
  | int i => exact .int i
  | tup => exact .tup
  | str z h hl => exact .str z h hl
  | lst q hq h => exact .lst q hq (K _ _ h fun z => by have := hD _ z; omega)
  | dct q hq h => exact .dct q hq (K _ _ h fun z => by have := hD _ z; omega)
theorem Odd.keep {m m' : Mem} {q0 n : Nat} {x : MV} (o : Odd m q0 x) (K : Keep n m m') (hn : n < q0) : Odd m' q0 x :=
  o.kx (D := [n]) (fun k o e h => K k o (fun z => h (by rw [z]; simp)) e) (fun d hd => by rw [List.mem_singleton] at hd; omega)
theorem Odd.ext {m m' : Mem} {q0 : Nat} {x : MV} (o : Odd m q0 x) (X : Ext m m') : Odd m' q0 x := o.kx (X.kx []) (fun _ h => nomatch h)
theorem Odd.nameB {m : Mem} {q0 : Nat} {x : MV} (o : Odd m q0 x) : Sp.nameB x = false := by
  cases o with
  | str z h hl => exact h
  | _ => rfl
theorem Odd.noX {m : Mem} {q0 : Nat} {x : MV} (o : Odd m q0 x) : MP.noX x = true := by
  cases o <;> rfl
/-- a word of the pool, or a strange one -/
def Wd (ws : List Str) (m : Mem) (q0 : Nat) (x : MV) : Prop := (∃ z, x = .str z ∧ z ∈ ws) ∨ Odd m q0 x
theorem Wd.kx {ws : List Str} {m m' : Mem} {q0 : Nat} {x : MV} (o : Wd ws m q0 x) {D : List Nat} (K : Kx D m m') (hD : ∀ d ∈ D, d < q0) : Wd ws m' q0 x := o.imp id fun o => o.kx K hD
theorem Wd.keep {ws : List Str} {m m' : Mem} {q0 n : Nat} {x : MV} (o : Wd ws m q0 x) (K : Keep n m m') (hn : n < q0) : Wd ws m' q0 x := o.imp id fun o => o.keep K hn
/-- a deed that is one while some places may be written -/
def Good2 (Ws : List Str) (m : Mem) (q0 : Nat) (v : MV) : Prop := ∃ d, ∀ (m' : Mem) (D : List Nat), Kx D m m' → (∀ d ∈ D, d < q0) → Kd m m' → DeedR Ws m' v d
theorem Good.two {Ws : List Str} {m : Mem} {q0 : Nat} {v : MV} (h : Good Ws m v) : Good2 Ws m q0 v := let ⟨d, hd⟩ := h; ⟨d, fun m' _ _ _ k => hd m' k⟩
theorem Good2.step {Ws : List Str} {m m1 : Mem} {q0 : Nat} {v : MV} (h : Good2 Ws m q0 v) {n : Nat} (K : Keep n m m1) (hn : n < q0) (kd : Kd m m1) : Good2 Ws m1 q0 v := by
  obtain ⟨d, hd⟩ := h
  refine ⟨d, fun m' D K' hD kd' => hd m' (n :: D) (fun k o e hk => ?_) (fun d hd => ?_) (kd.trans kd')⟩
  · exact K' _ _ (K k o (fun z => hk (by rw [z]; simp)) e) (fun z => hk (List.mem_cons_of_mem _ z))
  · rcases List.mem_cons.mp hd with rfl | hd
    · exact hn
    · exact hD d hd
end Sp

namespace Sp
open PySem MP MF
local macro_rules
  | `(tactic| simp! only [$xs,*]) => `(tactic| try simp only [w_seq, w_set, w_par, w_asg, w_e1, w_e2, w_tup, w_lst, w_dct0, w_call, w_aL1, w_aL0, w_tE, w_tB, w_tAnd, w_tOr, w_tNot, w_eNot, w_eIf, w_ret, w_expr, w_if, w_pass, w_raise, w_gName, w_gSub, w_gTup, w_gAll1, w_gAll0, var_zero, var_succ, run_int, run_str, run_c, Res.wp_ok, List.map_cons, List.map_nil, List.replicate_succ, List.replicate_zero, List.cons_append, List.nil_append, List.append_nil, List.set_cons_zero, List.set_cons_succ, List.length_cons, List.length_nil, o_add, o_sub, o_neg, o_abs, o_lt, o_le, o_gt, o_ge, o_eqi, o_nei, o_bl, tr_bl, o_ix0, o_ix1, o_ix2, o_ix3, o_ix4, if_bl, if_bl', true_and, and_true, decide_true, decide_false, Bool.not_true, Bool.not_false, Bool.false_eq_true, if_true, if_false, $xs,*])
  | `(tactic| simp! only [$xs,*] at $h:ident) => `(tactic| try simp only [w_seq, w_set, w_par, w_asg, w_e1, w_e2, w_tup, w_lst, w_dct0, w_call, w_aL1, w_aL0, w_tE, w_tB, w_tAnd, w_tOr, w_tNot, w_eNot, w_eIf, w_ret, w_expr, w_if, w_pass, w_raise, w_gName, w_gSub, w_gTup, w_gAll1, w_gAll0, var_zero, var_succ, run_int, run_str, run_c, Res.wp_ok, List.map_cons, List.map_nil, List.replicate_succ, List.replicate_zero, List.cons_append, List.nil_append, List.append_nil, List.set_cons_zero, List.set_cons_succ, List.length_cons, List.length_nil, o_add, o_sub, o_neg, o_abs, o_lt, o_le, o_gt, o_ge, o_eqi, o_nei, o_bl, tr_bl, o_ix0, o_ix1, o_ix2, o_ix3, o_ix4, if_bl, if_bl', true_and, and_true, decide_true, decide_false, Bool.not_true, Bool.not_false, Bool.false_eq_true, if_true, if_false, $xs,*] at $h:ident)
  | `(tactic| bv_omega) => `(tactic| repeat (with_reducible (first | refine s_ok ?_ | refine s_nx ?_ | refine s_rt ?_ | refine s_seq ?_ | refine s_set ?_ | refine s_var (by with_unfolding_all rfl) ?_ | refine s_int ?_ | refine s_str ?_ | refine s_c ?_ | refine s_e2 ?_ | refine s_e1 ?_ | refine s_call ?_ | refine s_aL1 ?_ | refine s_aL0 ?_ | refine s_tup ?_ | refine s_lst ?_ | refine s_line (by with_unfolding_all rfl) ?_ | refine s_if ?_ | refine s_tB ?_ | refine s_tE ?_ | refine s_bl ?_ | refine s_trb ?_ | refine s_tAnd ?_ | refine s_tOr ?_ | refine s_tNot ?_ | refine s_yes ?_ | refine s_eNot ?_ | refine s_eIf ?_ | refine s_eAnd ?_ | refine s_eOr ?_ | refine s_exbl ?_ | refine s_ret ?_ | refine s_expr ?_ | refine s_pass ?_ | refine s_asg ?_ | refine s_gName ?_ | refine s_gSub ?_ | refine s_gTup (by with_unfolding_all rfl) ?_ | refine s_gAll1 ?_ | refine s_gAll0 ?_ | refine s_par ?_ | refine s_dct0 ?_ | refine s_T ?_ | refine s_F ?_ | refine s_nT ?_ | refine s_nF ?_ | refine s_add ?_ | refine s_sub ?_ | refine s_lt ?_ | refine s_gt ?_ | refine s_le ?_ | refine s_ge ?_ | refine s_eqi ?_ | refine s_nei ?_ | refine s_eqs ?_ | refine s_nes ?_ | refine s_neg ?_ | refine s_abs ?_ | refine s_lenT ?_ | refine s_ixT (by with_unfolding_all rfl) ?_ | refine s_lenL (by assumption) ?_ | refine s_ixL (by assumption) (by with_unfolding_all rfl) ?_ | refine s_lenD (by assumption) ?_ | refine s_trL (by assumption) ?_ | refine s_cut ?_ | refine s_partN ?_ | refine s_partS ?_ | refine s_exint ?_ | refine s_cutT ?_ | refine s_cutL (by assumption) ?_ | refine s_eDct ?_ | refine s_pairs1 ?_ | refine s_pairs0 ?_ | refine s_eChain ?_ | refine s_eOrT ?_ | refine s_intB ?_ | refine s_retN ?_ | refine s_raise ?_ | refine s_ex ?_ | refine s_bk ?_ | refine s_ct ?_ | refine s_break ?_ | refine s_cont ?_ | refine s_join ?_ | refine s_exstr ?_ | refine s_get2 ?_ | refine s_append ?_ | refine s_isNon ?_ | refine s_notNon ?_ | refine s_max ?_ | refine s_min ?_ | refine s_par3 ?_ | refine s_mul (by first | assumption | exact mulOk_l (by decide) | exact mulOk_r (by decide)) ?_ | refine s_mod (by first | assumption | decide) ?_ | refine s_div (by first | assumption | exact ⟨by decide, divb_small (by decide)⟩) ?_ | refine s_yesI (by first | assumption | decide) ?_ | refine s_noI (by first | assumption | decide) ?_ | refine s_nyesI (by first | assumption | decide) ?_ | refine s_nnoI (by first | assumption | decide) ?_)))
/-! SpTl: a deed that is refused where it stands. -/
section
variable {m : Mem} {n c : Nat} {Q : MV → Mem → Prop} {E : Str → Mem → Prop}
end
end Sp

namespace Sp
open PySem MP MF
local macro_rules
  | `(tactic| simp! only [$xs,*]) => `(tactic| try simp only [w_seq, w_set, w_par, w_asg, w_e1, w_e2, w_tup, w_lst, w_dct0, w_call, w_aL1, w_aL0, w_tE, w_tB, w_tAnd, w_tOr, w_tNot, w_eNot, w_eIf, w_ret, w_expr, w_if, w_pass, w_raise, w_gName, w_gSub, w_gTup, w_gAll1, w_gAll0, var_zero, var_succ, run_int, run_str, run_c, Res.wp_ok, List.map_cons, List.map_nil, List.replicate_succ, List.replicate_zero, List.cons_append, List.nil_append, List.append_nil, List.set_cons_zero, List.set_cons_succ, List.length_cons, List.length_nil, o_add, o_sub, o_neg, o_abs, o_lt, o_le, o_gt, o_ge, o_eqi, o_nei, o_bl, tr_bl, o_ix0, o_ix1, o_ix2, o_ix3, o_ix4, if_bl, if_bl', true_and, and_true, decide_true, decide_false, Bool.not_true, Bool.not_false, Bool.false_eq_true, if_true, if_false, $xs,*])
  | `(tactic| simp! only [$xs,*] at $h:ident) => `(tactic| try simp only [w_seq, w_set, w_par, w_asg, w_e1, w_e2, w_tup, w_lst, w_dct0, w_call, w_aL1, w_aL0, w_tE, w_tB, w_tAnd, w_tOr, w_tNot, w_eNot, w_eIf, w_ret, w_expr, w_if, w_pass, w_raise, w_gName, w_gSub, w_gTup, w_gAll1, w_gAll0, var_zero, var_succ, run_int, run_str, run_c, Res.wp_ok, List.map_cons, List.map_nil, List.replicate_succ, List.replicate_zero, List.cons_append, List.nil_append, List.append_nil, List.set_cons_zero, List.set_cons_succ, List.length_cons, List.length_nil, o_add, o_sub, o_neg, o_abs, o_lt, o_le, o_gt, o_ge, o_eqi, o_nei, o_bl, tr_bl, o_ix0, o_ix1, o_ix2, o_ix3, o_ix4, if_bl, if_bl', true_and, and_true, decide_true, decide_false, Bool.not_true, Bool.not_false, Bool.false_eq_true, if_true, if_false, $xs,*] at $h:ident)
  | `(tactic| bv_omega) => `(tactic| repeat (with_reducible (first | refine s_ok ?_ | refine s_nx ?_ | refine s_rt ?_ | refine s_seq ?_ | refine s_set ?_ | refine s_var (by with_unfolding_all rfl) ?_ | refine s_int ?_ | refine s_str ?_ | refine s_c ?_ | refine s_e2 ?_ | refine s_e1 ?_ | refine s_call ?_ | refine s_aL1 ?_ | refine s_aL0 ?_ | refine s_tup ?_ | refine s_lst ?_ | refine s_line (by with_unfolding_all rfl) ?_ | refine s_if ?_ | refine s_tB ?_ | refine s_tE ?_ | refine s_bl ?_ | refine s_trb ?_ | refine s_tAnd ?_ | refine s_tOr ?_ | refine s_tNot ?_ | refine s_yes ?_ | refine s_eNot ?_ | refine s_eIf ?_ | refine s_eAnd ?_ | refine s_eOr ?_ | refine s_exbl ?_ | refine s_ret ?_ | refine s_expr ?_ | refine s_pass ?_ | refine s_asg ?_ | refine s_gName ?_ | refine s_gSub ?_ | refine s_gTup (by with_unfolding_all rfl) ?_ | refine s_gAll1 ?_ | refine s_gAll0 ?_ | refine s_par ?_ | refine s_dct0 ?_ | refine s_T ?_ | refine s_F ?_ | refine s_nT ?_ | refine s_nF ?_ | refine s_add ?_ | refine s_sub ?_ | refine s_lt ?_ | refine s_gt ?_ | refine s_le ?_ | refine s_ge ?_ | refine s_eqi ?_ | refine s_nei ?_ | refine s_eqs ?_ | refine s_nes ?_ | refine s_neg ?_ | refine s_abs ?_ | refine s_lenT ?_ | refine s_ixT (by with_unfolding_all rfl) ?_ | refine s_lenL (by assumption) ?_ | refine s_ixL (by assumption) (by with_unfolding_all rfl) ?_ | refine s_lenD (by assumption) ?_ | refine s_trL (by assumption) ?_ | refine s_cut ?_ | refine s_partN ?_ | refine s_partS ?_ | refine s_exint ?_ | refine s_cutT ?_ | refine s_cutL (by assumption) ?_ | refine s_eDct ?_ | refine s_pairs1 ?_ | refine s_pairs0 ?_ | refine s_eChain ?_ | refine s_eOrT ?_ | refine s_intB ?_ | refine s_retN ?_ | refine s_raise ?_ | refine s_ex ?_ | refine s_bk ?_ | refine s_ct ?_ | refine s_break ?_ | refine s_cont ?_ | refine s_join ?_ | refine s_exstr ?_ | refine s_get2 ?_ | refine s_append ?_ | refine s_isNon ?_ | refine s_notNon ?_ | refine s_max ?_ | refine s_min ?_ | refine s_par3 ?_ | refine s_mul (by first | assumption | exact mulOk_l (by decide) | exact mulOk_r (by decide)) ?_ | refine s_mod (by first | assumption | decide) ?_ | refine s_div (by first | assumption | exact ⟨by decide, divb_small (by decide)⟩) ?_ | refine s_yesI (by first | assumption | decide) ?_ | refine s_noI (by first | assumption | decide) ?_ | refine s_nyesI (by first | assumption | decide) ?_ | refine s_nnoI (by first | assumption | decide) ?_)))
/-! SpTm: a store copied; several stores and books side by side. -/
section
variable {m : Mem} {s pp pu : Nat} {A : St} {Q : MV → Mem → Prop} {E : Str → Mem → Prop}
end
theorem get_lt {α : Type} {l : List α} {i : Nat} {a : α} (h : l[i]? = some a) : i < l.length := by
  rcases Nat.lt_or_ge i l.length with h1 | h1
  · exact h1
  · rw [List.getElem?_eq_none h1] at h; cases h
structure Rec where
  s : Nat
  b : Nat
  pp : Nat
  pu : Nat
  bp : Nat
  bu : Nat
  A : St
def Rec.own (f : Rec) : List Nat := [f.s, f.pp, f.pu, f.b, f.bp, f.bu]
structure Fam (Ws : List Str) (N L : Nat) (m : Mem) (a5 a6 : Nat) (fs : List Rec) : Prop where
  js : ∀ (i : Nat) (f : Rec), fs[i]? = some f → J Ws N L m f.s f.b f.pp f.pu f.bp f.bu f.A
  sep : ∀ (i j : Nat) (f g : Rec), i ≠ j → fs[i]? = some f → fs[j]? = some g → ∀ d ∈ f.own, d ∉ g.own
  a5_ : m[a5]? = some (.lst (fs.map fun f => .ref f.s))
  a6_ : m[a6]? = some (.lst (fs.map fun f => .ref f.b))
  n5 : ∀ (i : Nat) (f : Rec), fs[i]? = some f → a5 ∉ f.own ∧ a6 ∉ f.own
  ne : a5 ≠ a6
  lo : L ≤ a5 ∧ L ≤ a6
  len : 1 ≤ fs.length
section
variable {Ws : List Str} {N L : Nat} {m : Mem} {a5 a6 : Nat} {fs : List Rec}
theorem J.away {s b pp pu bp bu : Nat} {A : St} (j : J Ws N L m s b pp pu bp bu A) {m' : Mem} {D : List Nat} (K : Kx D m m') (hn : ∀ d ∈ [s, pp, pu, b, bp, bu], d ∉ D) (kd : Kd m m') : J Ws N L m' s b pp pu bp bu A :=
  ⟨j.S.keep K (hn _ (by simp)) (hn _ (by simp)) (hn _ (by simp)), j.B.keep K (hn _ (by simp)) (hn _ (by simp)) (hn _ (by simp)), j.ok.kd kd, j.low, j.sep⟩
theorem J.mono {s b pp pu bp bu : Nat} {A : St} (j : J Ws N L m s b pp pu bp bu A) {N' : Nat} (k : N ≤ N') : J Ws N' L m s b pp pu bp bu A := ⟨j.S, j.B, j.ok.mono k, j.low, j.sep⟩
theorem J.lts {s b pp pu bp bu : Nat} {A : St} (j : J Ws N L m s b pp pu bp bu A) : ∀ d ∈ [s, pp, pu, b, bp, bu], d < m.length := by
  have h1 := lt_of j.S.at_
  have h2 := lt_of j.S.past
  have h3 := lt_of j.S.und
  have h4 := lt_of j.B.at_
  have h5 := lt_of j.B.past
  have h6 := lt_of j.B.und
  intro d hd
  simp only [List.mem_cons, List.not_mem_nil, or_false] at hd
  omega
theorem Fam.away (F : Fam Ws N L m a5 a6 fs) {m' : Mem} {D : List Nat} (K : Kx D m m') (hn : ∀ d ∈ D, d < L) (kd : Kd m m') : Fam Ws N L m' a5 a6 fs :=
  ⟨fun i f hf => (F.js i f hf).kx K hn kd, F.sep, K _ _ F.a5_ (fun z => by have := hn _ z; have := F.lo; omega), K _ _ F.a6_ (fun z => by have := hn _ z; have := F.lo; omega), F.n5, F.ne, F.lo, F.len⟩
theorem Fam.ext (F : Fam Ws N L m a5 a6 fs) {m' : Mem} (x : Ext m m') : Fam Ws N L m' a5 a6 fs :=
  ⟨fun i f hf => (F.js i f hf).ext x, F.sep, x _ _ F.a5_, x _ _ F.a6_, F.n5, F.ne, F.lo, F.len⟩
theorem Fam.keep (F : Fam Ws N L m a5 a6 fs) {m' : Mem} {n c : Nat} (S : Sta n c m) (K : Keep n m m') (hn : n < L) : Fam Ws N L m' a5 a6 fs :=
  F.away (D := [n]) (fun k o e h => K k o (fun z => h (by rw [z]; simp)) e) (fun d hd => by rw [List.mem_singleton] at hd; omega) (S.kd K)
theorem Fam.push (F : Fam Ws N L m a5 a6 fs) {i : Nat} {f : Rec} (hi : fs[i]? = some f) {m3 m5 : Mem} {s2 p2 u2 b2 bp2 bu2 : Nat} (R : SR m3 s2 f.A p2 u2) (x3 : Ext m m3) (h1 : m.length ≤ s2) (h2 : m.length ≤ p2) (h3 : m.length ≤ u2)
    (B : BR m5 b2 f.A bp2 bu2) (x5 : Ext (m3.set a5 (.lst (fs.map (fun f => MV.ref f.s) ++ [.ref s2]))) m5) (h4 : m3.length ≤ b2) (h5 : m3.length ≤ bp2) (h6 : m3.length ≤ bu2) :
    Fam Ws N L (m5.set a6 (.lst (fs.map (fun f => MV.ref f.b) ++ [.ref b2]))) a5 a6 (fs ++ [⟨s2, b2, p2, u2, bp2, bu2, f.A⟩]) ∧ Kx [a5, a6] m (m5.set a6 (.lst (fs.map (fun f => MV.ref f.b) ++ [.ref b2]))) ∧ Kd m (m5.set a6 (.lst (fs.map (fun f => MV.ref f.b) ++ [.ref b2]))) := by
  have k6 : Kx [a5, a6] m (m5.set a6 (.lst (fs.map (fun f => MV.ref f.b) ++ [.ref b2]))) := ((x3.kx _).trans (Kx.set (by simp) _)).trans ((x5.kx _).trans (Kx.set (by simp) _))
  have kd : Kd m (m5.set a6 (.lst (fs.map (fun f => MV.ref f.b) ++ [.ref b2]))) := fun k kvs h => k6 _ _ h fun z => by
    simp only [List.mem_cons, List.not_mem_nil, or_false] at z
    rcases z with rfl | rfl
    · rw [F.a5_] at h; cases h
    · rw [F.a6_] at h; cases h
  have l5 := lt_of F.a5_
  have l6 := lt_of F.a6_
  have lm := x3.len
  have j := F.js i f hi
  have hL := j.lts
  have hLo : ∀ d ∈ f.own, L ≤ d := j.low
  have hLm : L ≤ m.length := by have := F.lo; omega
  have l1 := lt_of R.at_
  have l2 := lt_of R.past
  have l3 := lt_of R.und
  have Rm : SR (m3.set a5 (.lst (fs.map (fun f => MV.ref f.s) ++ [.ref s2]))) s2 f.A p2 u2 := R.keep (Kx.set (D := [a5]) (by simp) _) (by simp; omega) (by simp; omega) (by simp; omega)
  have R6 : SR (m5.set a6 (.lst (fs.map (fun f => MV.ref f.b) ++ [.ref b2]))) s2 f.A p2 u2 := (Rm.ext x5).keep (Kx.set (D := [a6]) (by simp) _) (by simp; omega) (by simp; omega) (by simp; omega)
  have B6 : BR (m5.set a6 (.lst (fs.map (fun f => MV.ref f.b) ++ [.ref b2]))) b2 f.A bp2 bu2 := B.keep (Kx.set (D := [a6]) (by simp) _) (by simp; omega) (by simp; omega) (by simp; omega)
  have ho : ∀ d ∈ Rec.own ⟨s2, b2, p2, u2, bp2, bu2, f.A⟩, m.length ≤ d := by
    intro d hd
    simp only [Rec.own, List.mem_cons, List.not_mem_nil, or_false] at hd
    omega
  have jn : J Ws N L (m5.set a6 (.lst (fs.map (fun f => MV.ref f.b) ++ [.ref b2]))) s2 b2 p2 u2 bp2 bu2 f.A := by
    refine ⟨R6, B6, j.ok.kd kd, fun d hd => Nat.le_trans hLm (ho d hd), ?_⟩
    intro d hd h
    simp only [List.mem_cons, List.not_mem_nil, or_false] at hd h
    omega
  have get : ∀ (k : Nat) (g : Rec), (fs ++ [⟨s2, b2, p2, u2, bp2, bu2, f.A⟩])[k]? = some g → fs[k]? = some g ∨ (k = fs.length ∧ g = ⟨s2, b2, p2, u2, bp2, bu2, f.A⟩) := by
    intro k g hk
    rcases Nat.lt_or_ge k fs.length with h | h
    · rw [List.getElem?_append_left h] at hk; exact .inl hk
    · have hk2 := get_lt hk
      rw [List.length_append, List.length_singleton] at hk2
      have e : k = fs.length := by omega
      subst e
      rw [List.getElem?_concat_length] at hk
      exact .inr ⟨rfl, (Option.some.inj hk).symm⟩
  refine ⟨⟨?_, ?_, ?_, ?_, ?_, F.ne, F.lo, by rw [List.length_append]; have := F.len; omega⟩, k6, kd⟩
  · intro k g hk
    rcases get k g hk with hg | ⟨_, rfl⟩
    · refine (F.js k g hg).away k6 (fun d hd z => ?_) kd
      have hn := F.n5 k g hg
      simp only [List.mem_cons, List.not_mem_nil, or_false] at z
      rcases z with rfl | rfl
      · exact hn.1 hd
      · exact hn.2 hd
    · exact jn
  · intro k l g g' hkl hk hl d hd hd'
    rcases get k g hk with hg | ⟨e1, rfl⟩
    · rcases get l g' hl with hg2 | ⟨e2, rfl⟩
      · exact F.sep k l g g' hkl hg hg2 d hd hd'
      · have := (F.js k g hg).lts d hd
        have := ho d hd'
        omega
    · rcases get l g' hl with hg2 | ⟨e2, rfl⟩
      · have := (F.js l g' hg2).lts d hd'
        have := ho d hd
        omega
      · exact hkl (e1.trans e2.symm)
  · rw [List.map_append]
    refine set_ne _ (Ne.symm F.ne) (x5 _ _ (set_at _ (x3 _ _ F.a5_)))
  · rw [List.map_append]
    exact set_at _ (x5 _ _ (set_ne _ F.ne (x3 _ _ F.a6_)))
  · intro k g hk
    rcases get k g hk with hg | ⟨_, rfl⟩
    · exact F.n5 k g hg
    · exact ⟨fun h => by have := ho _ h; omega, fun h => by have := ho _ h; omega⟩
end
end Sp

namespace Sp
open PySem MP MF
local macro_rules
  | `(tactic| simp! only [$xs,*]) => `(tactic| try simp only [w_seq, w_set, w_par, w_asg, w_e1, w_e2, w_tup, w_lst, w_dct0, w_call, w_aL1, w_aL0, w_tE, w_tB, w_tAnd, w_tOr, w_tNot, w_eNot, w_eIf, w_ret, w_expr, w_if, w_pass, w_raise, w_gName, w_gSub, w_gTup, w_gAll1, w_gAll0, var_zero, var_succ, run_int, run_str, run_c, Res.wp_ok, List.map_cons, List.map_nil, List.replicate_succ, List.replicate_zero, List.cons_append, List.nil_append, List.append_nil, List.set_cons_zero, List.set_cons_succ, List.length_cons, List.length_nil, o_add, o_sub, o_neg, o_abs, o_lt, o_le, o_gt, o_ge, o_eqi, o_nei, o_bl, tr_bl, o_ix0, o_ix1, o_ix2, o_ix3, o_ix4, if_bl, if_bl', true_and, and_true, decide_true, decide_false, Bool.not_true, Bool.not_false, Bool.false_eq_true, if_true, if_false, $xs,*])
  | `(tactic| simp! only [$xs,*] at $h:ident) => `(tactic| try simp only [w_seq, w_set, w_par, w_asg, w_e1, w_e2, w_tup, w_lst, w_dct0, w_call, w_aL1, w_aL0, w_tE, w_tB, w_tAnd, w_tOr, w_tNot, w_eNot, w_eIf, w_ret, w_expr, w_if, w_pass, w_raise, w_gName, w_gSub, w_gTup, w_gAll1, w_gAll0, var_zero, var_succ, run_int, run_str, run_c, Res.wp_ok, List.map_cons, List.map_nil, List.replicate_succ, List.replicate_zero, List.cons_append, List.nil_append, List.append_nil, List.set_cons_zero, List.set_cons_succ, List.length_cons, List.length_nil, o_add, o_sub, o_neg, o_abs, o_lt, o_le, o_gt, o_ge, o_eqi, o_nei, o_bl, tr_bl, o_ix0, o_ix1, o_ix2, o_ix3, o_ix4, if_bl, if_bl', true_and, and_true, decide_true, decide_false, Bool.not_true, Bool.not_false, Bool.false_eq_true, if_true, if_false, $xs,*] at $h:ident)
  | `(tactic| bv_omega) => `(tactic| repeat (with_reducible (first | refine s_ok ?_ | refine s_nx ?_ | refine s_rt ?_ | refine s_seq ?_ | refine s_set ?_ | refine s_var (by with_unfolding_all rfl) ?_ | refine s_int ?_ | refine s_str ?_ | refine s_c ?_ | refine s_e2 ?_ | refine s_e1 ?_ | refine s_call ?_ | refine s_aL1 ?_ | refine s_aL0 ?_ | refine s_tup ?_ | refine s_lst ?_ | refine s_line (by with_unfolding_all rfl) ?_ | refine s_if ?_ | refine s_tB ?_ | refine s_tE ?_ | refine s_bl ?_ | refine s_trb ?_ | refine s_tAnd ?_ | refine s_tOr ?_ | refine s_tNot ?_ | refine s_yes ?_ | refine s_eNot ?_ | refine s_eIf ?_ | refine s_eAnd ?_ | refine s_eOr ?_ | refine s_exbl ?_ | refine s_ret ?_ | refine s_expr ?_ | refine s_pass ?_ | refine s_asg ?_ | refine s_gName ?_ | refine s_gSub ?_ | refine s_gTup (by with_unfolding_all rfl) ?_ | refine s_gAll1 ?_ | refine s_gAll0 ?_ | refine s_par ?_ | refine s_dct0 ?_ | refine s_T ?_ | refine s_F ?_ | refine s_nT ?_ | refine s_nF ?_ | refine s_add ?_ | refine s_sub ?_ | refine s_lt ?_ | refine s_gt ?_ | refine s_le ?_ | refine s_ge ?_ | refine s_eqi ?_ | refine s_nei ?_ | refine s_eqs ?_ | refine s_nes ?_ | refine s_neg ?_ | refine s_abs ?_ | refine s_lenT ?_ | refine s_ixT (by with_unfolding_all rfl) ?_ | refine s_lenL (by assumption) ?_ | refine s_ixL (by assumption) (by with_unfolding_all rfl) ?_ | refine s_lenD (by assumption) ?_ | refine s_trL (by assumption) ?_ | refine s_cut ?_ | refine s_partN ?_ | refine s_partS ?_ | refine s_exint ?_ | refine s_cutT ?_ | refine s_cutL (by assumption) ?_ | refine s_eDct ?_ | refine s_pairs1 ?_ | refine s_pairs0 ?_ | refine s_eChain ?_ | refine s_eOrT ?_ | refine s_intB ?_ | refine s_retN ?_ | refine s_raise ?_ | refine s_ex ?_ | refine s_bk ?_ | refine s_ct ?_ | refine s_break ?_ | refine s_cont ?_ | refine s_join ?_ | refine s_exstr ?_ | refine s_get2 ?_ | refine s_append ?_ | refine s_isNon ?_ | refine s_notNon ?_ | refine s_max ?_ | refine s_min ?_ | refine s_par3 ?_ | refine s_mul (by first | assumption | exact mulOk_l (by decide) | exact mulOk_r (by decide)) ?_ | refine s_mod (by first | assumption | decide) ?_ | refine s_div (by first | assumption | exact ⟨by decide, divb_small (by decide)⟩) ?_ | refine s_yesI (by first | assumption | decide) ?_ | refine s_noI (by first | assumption | decide) ?_ | refine s_nyesI (by first | assumption | decide) ?_ | refine s_nnoI (by first | assumption | decide) ?_)))
/-! SpTn: strange names and rows, told. -/
/-- lists and dicts stay -/
structure LkD (m m' : Mem) : Prop where
  l : ∀ (k : Nat) (xs : List MV), m[k]? = some (.lst xs) → m'[k]? = some (.lst xs)
  d : ∀ (k : Nat) (b : Bool) (kvs : List (Key × MV)), m[k]? = some (.dct b kvs) → m'[k]? = some (.dct b kvs)
theorem Dat.lkd {m m' : Mem} (h : LkD m m') : ∀ {d : Nat} {x : MV}, Dat d m x → Dat d m' x
  | 0, _, hx => hx
  | d + 1, x, hx => by
    cases x with
    | tup xs => exact fun y hy => Dat.lkd h (hx y hy)
    | ref n =>
      simp only [Dat] at hx ⊢
      cases hm : m[n]? with
      | none => rw [hm] at hx; exact hx.elim
      | some o => cases o with
        | lst xs =>
          rw [hm] at hx
          rw [h.l _ _ hm]
          exact ⟨hx.1, fun y hy => Dat.lkd h (hx.2 y hy)⟩
        | dct l kvs =>
          rw [hm] at hx
          rw [h.d _ _ _ hm]
          exact ⟨hx.1, hx.2.1, fun kv hkv => Dat.lkd h (hx.2.2.1 kv hkv), fun kv hkv => Dat.lkd h (hx.2.2.2 kv hkv)⟩
        | _ => rw [hm] at hx; exact hx.elim
    | _ => exact hx
theorem dctOf_lkd {m m' : Mem} (h : LkD m m') {d : Nat} {x : MV} (hx : Dat (d + 1) m x) : dctOf m' x = dctOf m x := by
  cases x with
  | ref n =>
    simp only [Dat] at hx
    unfold dctOf
    cases hm : m[n]? with
    | none => rw [hm] at hx; exact hx.elim
    | some o => cases o with
      | lst xs => simp only [hm, h.l _ _ hm]
      | dct l kvs => simp only [hm, h.d _ _ _ hm]
      | _ => rw [hm] at hx; exact hx.elim
  | _ => rfl
theorem rowB_lkd {m m' : Mem} (h : LkD m m') {d : Nat} {x : MV} (hx : Dat (d + 2) m x) : rowB m' x = rowB m x := by
  unfold rowB
  split
  · rename_i a b c
    unfold sumB
    rw [dctOf_lkd h (hx a (by simp))]
  · rfl
/-- only dicts, and lists between two places -/
def wipeO (q0 q1 k : Nat) : MO → MO
  | .lst xs => if q0 ≤ k ∧ k < q1 then .lst xs else .ins "" []
  | .dct false kvs => .dct false kvs
  | _ => .ins "" []
def wipeM (q0 q1 : Nat) (m : Mem) : Mem := m.mapIdx (wipeO q0 q1)
theorem wipe_at (q0 q1 : Nat) (m : Mem) (k : Nat) : (wipeM q0 q1 m)[k]? = (m[k]?).map (wipeO q0 q1 k) := by unfold wipeM; rw [List.getElem?_mapIdx]
theorem wipe_lst {q0 q1 k : Nat} {m : Mem} {xs : List MV} (h : m[k]? = some (.lst xs)) (h0 : q0 ≤ k) (h1 : k < q1) : (wipeM q0 q1 m)[k]? = some (.lst xs) := by
  rw [wipe_at, h]; show some (if q0 ≤ k ∧ k < q1 then MO.lst xs else _) = _; rw [if_pos ⟨h0, h1⟩]
theorem wipe_dct {q0 q1 k : Nat} {m : Mem} {kvs : List (Key × MV)} (h : m[k]? = some (.dct false kvs)) : (wipeM q0 q1 m)[k]? = some (.dct false kvs) := by
  rw [wipe_at, h]; rfl
theorem wipe_inL {q0 q1 k : Nat} {m : Mem} {xs : List MV} (h : (wipeM q0 q1 m)[k]? = some (.lst xs)) : q0 ≤ k ∧ k < q1 ∧ m[k]? = some (.lst xs) := by
  rw [wipe_at] at h
  cases hm : m[k]? with
  | none => rw [hm] at h; cases h
  | some o =>
    rw [hm] at h
    have h := Option.some.inj h
    cases o with
    | lst ys =>
      change (if q0 ≤ k ∧ k < q1 then MO.lst ys else _) = _ at h
      split at h
      · rename_i hc
        cases h
        exact ⟨hc.1, hc.2, rfl⟩
      · cases h
    | dct b kvs => cases b <;> cases h
    | _ => cases h
theorem wipe_inD {q0 q1 k : Nat} {m : Mem} {b : Bool} {kvs : List (Key × MV)} (h : (wipeM q0 q1 m)[k]? = some (.dct b kvs)) : b = false ∧ m[k]? = some (.dct false kvs) := by
  rw [wipe_at] at h
  cases hm : m[k]? with
  | none => rw [hm] at h; cases h
  | some o =>
    rw [hm] at h
    have h := Option.some.inj h
    cases o with
    | lst ys =>
      change (if q0 ≤ k ∧ k < q1 then MO.lst ys else _) = _ at h
      split at h <;> cases h
    | dct c kvs => cases c <;> cases h; exact ⟨rfl, rfl⟩
    | _ => cases h
theorem wipe_kx {q0 q1 : Nat} {m m' : Mem} {D : List Nat} (K : Kx D m m') (hD : ∀ d ∈ D, d < q0 ∨ q1 ≤ d) (kd : Kd m m') : LkD (wipeM q0 q1 m) (wipeM q0 q1 m') := by
  refine ⟨fun k xs h => ?_, fun k b kvs h => ?_⟩
  · obtain ⟨h0, h1, h2⟩ := wipe_inL h
    exact wipe_lst (K _ _ h2 fun z => by have := hD _ z; omega) h0 h1
  · obtain ⟨rfl, h2⟩ := wipe_inD h
    exact wipe_dct (kd _ _ h2)
/-- a name, or what is none -/
def NmO (q0 q1 : Nat) (m : Mem) (x : MV) : Prop := (∃ z, x = .str z ∧ IsName z) ∨ (Dat 2 (wipeM q0 q1 m) x ∧ nameB x = false)
def RwO (q0 q1 : Nat) (m : Mem) (x : MV) : Prop := (∃ r : Row, x = r.p ∧ RowOk m r) ∨ (Dat 4 (wipeM q0 q1 m) x ∧ rowB (wipeM q0 q1 m) x = false)
theorem NmO.kx {q0 q1 : Nat} {m m' : Mem} {x : MV} (h : NmO q0 q1 m x) {D : List Nat} (K : Kx D m m') (hD : ∀ d ∈ D, d < q0 ∨ q1 ≤ d) (kd : Kd m m') : NmO q0 q1 m' x := h.imp id fun ⟨a, b⟩ => ⟨a.lkd (wipe_kx K hD kd), b⟩
theorem RwO.kx {q0 q1 : Nat} {m m' : Mem} {x : MV} (h : RwO q0 q1 m x) {D : List Nat} (K : Kx D m m') (hD : ∀ d ∈ D, d < q0 ∨ q1 ≤ d) (kd : Kd m m') : RwO q0 q1 m' x :=
  h.imp (fun ⟨r, e, ok⟩ => ⟨r, e, ok.kd kd⟩) fun ⟨a, b⟩ => ⟨a.lkd (wipe_kx K hD kd), by rw [rowB_lkd (wipe_kx K hD kd) a]; exact b⟩
/-- a deed that is one while places outside are written -/
def Good3 (Ws : List Str) (m : Mem) (q0 q1 : Nat) (v : MV) : Prop := ∃ d, ∀ (m' : Mem) (D : List Nat), Kx D m m' → (∀ d ∈ D, d < q0 ∨ q1 ≤ d) → Kd m m' → DeedR Ws m' v d
section
variable {m : Mem} {n c : Nat} {Q : MV → Mem → Prop} {E : Str → Mem → Prop}
/-- what is no fraction, or nought -/
inductive BadN (m : Mem) (q0 : Nat) : MV → Prop
  | flat {x : MV} (h : ∀ w, Dat 2 w x) (hb : fracB x = false) : BadN m q0 x
  | lst (q : Nat) (hq : q0 ≤ q) (h : m[q]? = some (.lst [.int 1, .int 1])) : BadN m q0 (.ref q)
theorem BadN.ext {m m' : Mem} {q0 : Nat} {x : MV} (o : BadN m q0 x) {D : List Nat} (K : Kx D m m') (hD : ∀ d ∈ D, d < q0) : BadN m' q0 x := by
  cases o with
  | flat h hb => exact .flat h hb
  | lst q hq h => exact .lst q hq (K _ _ h fun z => by have := hD _ z; omega)
theorem Good3.kx {Ws : List Str} {m m1 : Mem} {q0 q1 : Nat} {v : MV} (h : Good3 Ws m q0 q1 v) {D : List Nat} (K : Kx D m m1) (hD : ∀ d ∈ D, d < q0 ∨ q1 ≤ d) (kd : Kd m m1) : Good3 Ws m1 q0 q1 v := by
  obtain ⟨d, hd⟩ := h
  refine ⟨d, fun m' D' K' hD' kd' => hd m' (D ++ D') (fun k o e hk => ?_) (fun d hd => ?_) (kd.trans kd')⟩
  · exact K' _ _ (K k o e (fun z => hk (List.mem_append_left _ z))) (fun z => hk (List.mem_append_right _ z))
  · rcases List.mem_append.mp hd with hd | hd
    · exact hD d hd
    · exact hD' d hd
/-- a name of the list, or a strange one -/
def NmS (ns : List Str) (m : Mem) (q0 : Nat) (x : MV) : Prop := (∃ z ∈ ns, x = .str z) ∨ Odd m q0 x
theorem NmS.keep {ns : List Str} {m m' : Mem} {q0 n : Nat} {x : MV} (h : NmS ns m q0 x) (K : Keep n m m') (hn : n < q0) : NmS ns m' q0 x := h.imp id fun o => o.keep K hn
theorem NmS.ext {ns : List Str} {m m' : Mem} {q0 : Nat} {x : MV} (h : NmS ns m q0 x) (X : Ext m m') : NmS ns m' q0 x := h.imp id fun o => o.ext X
theorem NmS.noX {ns : List Str} {q0 : Nat} {x : MV} (h : NmS ns m q0 x) : MP.noX x = true := by
  rcases h with ⟨z, hz, rfl⟩ | o
  · rfl
  · exact o.noX
end
structure Two (m : Mem) (n a u : Nat) (ns us : List Str) : Prop where
  a_ : m[a]? = some (.lst (ns.map MV.str))
  u_ : m[u]? = some (.lst (us.map MV.str))
  na : a ≠ n
  nu : u ≠ n
  nsi : ∀ z ∈ ns, IsName z
  usi : ∀ z ∈ us, IsName z
  nl : ns.length = 10
  ul : us.length = 6
theorem Two.keep {m m' : Mem} {n a u : Nat} {ns us : List Str} (T : Two m n a u ns us) (K : Keep n m m') : Two m' n a u ns us := ⟨K _ _ T.na T.a_, K _ _ T.nu T.u_, T.na, T.nu, T.nsi, T.usi, T.nl, T.ul⟩
theorem Two.kx {m m' : Mem} {n a u : Nat} {ns us : List Str} (T : Two m n a u ns us) {D : List Nat} (K : Kx D m m') (ha : a ∉ D) (hu : u ∉ D) : Two m' n a u ns us := ⟨K _ _ T.a_ ha, K _ _ T.u_ hu, T.na, T.nu, T.nsi, T.usi, T.nl, T.ul⟩
end Sp

namespace Sp
open PySem MP MF
local macro_rules
  | `(tactic| simp! only [$xs,*]) => `(tactic| try simp only [w_seq, w_set, w_par, w_asg, w_e1, w_e2, w_tup, w_lst, w_dct0, w_call, w_aL1, w_aL0, w_tE, w_tB, w_tAnd, w_tOr, w_tNot, w_eNot, w_eIf, w_ret, w_expr, w_if, w_pass, w_raise, w_gName, w_gSub, w_gTup, w_gAll1, w_gAll0, var_zero, var_succ, run_int, run_str, run_c, Res.wp_ok, List.map_cons, List.map_nil, List.replicate_succ, List.replicate_zero, List.cons_append, List.nil_append, List.append_nil, List.set_cons_zero, List.set_cons_succ, List.length_cons, List.length_nil, o_add, o_sub, o_neg, o_abs, o_lt, o_le, o_gt, o_ge, o_eqi, o_nei, o_bl, tr_bl, o_ix0, o_ix1, o_ix2, o_ix3, o_ix4, if_bl, if_bl', true_and, and_true, decide_true, decide_false, Bool.not_true, Bool.not_false, Bool.false_eq_true, if_true, if_false, $xs,*])
  | `(tactic| simp! only [$xs,*] at $h:ident) => `(tactic| try simp only [w_seq, w_set, w_par, w_asg, w_e1, w_e2, w_tup, w_lst, w_dct0, w_call, w_aL1, w_aL0, w_tE, w_tB, w_tAnd, w_tOr, w_tNot, w_eNot, w_eIf, w_ret, w_expr, w_if, w_pass, w_raise, w_gName, w_gSub, w_gTup, w_gAll1, w_gAll0, var_zero, var_succ, run_int, run_str, run_c, Res.wp_ok, List.map_cons, List.map_nil, List.replicate_succ, List.replicate_zero, List.cons_append, List.nil_append, List.append_nil, List.set_cons_zero, List.set_cons_succ, List.length_cons, List.length_nil, o_add, o_sub, o_neg, o_abs, o_lt, o_le, o_gt, o_ge, o_eqi, o_nei, o_bl, tr_bl, o_ix0, o_ix1, o_ix2, o_ix3, o_ix4, if_bl, if_bl', true_and, and_true, decide_true, decide_false, Bool.not_true, Bool.not_false, Bool.false_eq_true, if_true, if_false, $xs,*] at $h:ident)
  | `(tactic| bv_omega) => `(tactic| repeat (with_reducible (first | refine s_ok ?_ | refine s_nx ?_ | refine s_rt ?_ | refine s_seq ?_ | refine s_set ?_ | refine s_var (by with_unfolding_all rfl) ?_ | refine s_int ?_ | refine s_str ?_ | refine s_c ?_ | refine s_e2 ?_ | refine s_e1 ?_ | refine s_call ?_ | refine s_aL1 ?_ | refine s_aL0 ?_ | refine s_tup ?_ | refine s_lst ?_ | refine s_line (by with_unfolding_all rfl) ?_ | refine s_if ?_ | refine s_tB ?_ | refine s_tE ?_ | refine s_bl ?_ | refine s_trb ?_ | refine s_tAnd ?_ | refine s_tOr ?_ | refine s_tNot ?_ | refine s_yes ?_ | refine s_eNot ?_ | refine s_eIf ?_ | refine s_eAnd ?_ | refine s_eOr ?_ | refine s_exbl ?_ | refine s_ret ?_ | refine s_expr ?_ | refine s_pass ?_ | refine s_asg ?_ | refine s_gName ?_ | refine s_gSub ?_ | refine s_gTup (by with_unfolding_all rfl) ?_ | refine s_gAll1 ?_ | refine s_gAll0 ?_ | refine s_par ?_ | refine s_dct0 ?_ | refine s_T ?_ | refine s_F ?_ | refine s_nT ?_ | refine s_nF ?_ | refine s_add ?_ | refine s_sub ?_ | refine s_lt ?_ | refine s_gt ?_ | refine s_le ?_ | refine s_ge ?_ | refine s_eqi ?_ | refine s_nei ?_ | refine s_eqs ?_ | refine s_nes ?_ | refine s_neg ?_ | refine s_abs ?_ | refine s_lenT ?_ | refine s_ixT (by with_unfolding_all rfl) ?_ | refine s_lenL (by assumption) ?_ | refine s_ixL (by assumption) (by with_unfolding_all rfl) ?_ | refine s_lenD (by assumption) ?_ | refine s_trL (by assumption) ?_ | refine s_cut ?_ | refine s_partN ?_ | refine s_partS ?_ | refine s_exint ?_ | refine s_cutT ?_ | refine s_cutL (by assumption) ?_ | refine s_eDct ?_ | refine s_pairs1 ?_ | refine s_pairs0 ?_ | refine s_eChain ?_ | refine s_eOrT ?_ | refine s_intB ?_ | refine s_retN ?_ | refine s_raise ?_ | refine s_ex ?_ | refine s_bk ?_ | refine s_ct ?_ | refine s_break ?_ | refine s_cont ?_ | refine s_join ?_ | refine s_exstr ?_ | refine s_get2 ?_ | refine s_append ?_ | refine s_isNon ?_ | refine s_notNon ?_ | refine s_max ?_ | refine s_min ?_ | refine s_par3 ?_ | refine s_mul (by first | assumption | exact mulOk_l (by decide) | exact mulOk_r (by decide)) ?_ | refine s_mod (by first | assumption | decide) ?_ | refine s_div (by first | assumption | exact ⟨by decide, divb_small (by decide)⟩) ?_ | refine s_yesI (by first | assumption | decide) ?_ | refine s_noI (by first | assumption | decide) ?_ | refine s_nyesI (by first | assumption | decide) ?_ | refine s_nnoI (by first | assumption | decide) ?_)))
theorem zero_divInt {t u : Int} (hu : u ≠ 0) (h : Rat.divInt t u = 0) : t = 0 := by
  have := cross hu h
  have e : (0 : Rat).num = 0 := rfl
  have e2 : ((0 : Rat).den : Int) = 1 := rfl
  rw [e, e2] at this
  omega
section
variable {m : Mem} {n c : Nat} {Q : MV → Mem → Prop} {E : Str → Mem → Prop}
theorem far_number_s (S : Sta n c m) (h : ∀ q m', Sz 100 q → q ≠ 0 → Sta n c m' → Keep n m m' → Q (fr q) m') : (f_L_far_number_c0f20a [.ref n] m).wp Q E := by
  unfold f_L_far_number_c0f20a b_L_far_number_c0f20a
  refine s_fn rfl ?_
  bv_omega
  refine take_s S (by decide) (divb_small (by decide)) fun d m1 a1 b1 S1 o1 => ?_
  bv_omega
  obtain ⟨t, ht, htp, htb⟩ : ∃ t, atI [MV.int 12, .int 12, .int 1, .int 1, .int (10 ^ 29)] d = some (.int t) ∧ 0 < t ∧ t ≤ 10 ^ 29 := by
    have : d = 0 ∨ d = 1 ∨ d = 2 ∨ d = 3 ∨ d = 4 := by omega
    rcases this with rfl | rfl | rfl | rfl | rfl <;> exact ⟨_, rfl, by decide, by decide⟩
  have ht29 : t.natAbs < 2 ^ 97 := by rw [p29] at htb; have : (2:Nat)^97 = 158456325028528675187087900672 := by decide
                                      omega
  refine s_ixL (new_at _ _) ht ?_
  bv_omega
  refine take_s (S1.push _) htp (divb_pow ht29 (by decide)) fun e m2 a2 b2 S2 o2 => ?_
  bv_omega
  obtain ⟨u, hu, hup, hub⟩ : ∃ t, atI [MV.int 1, .int 9, .int 1, .int 1, .int (10 ^ 29)] d = some (.int t) ∧ 0 < t ∧ t ≤ 10 ^ 29 := by
    have : d = 0 ∨ d = 1 ∨ d = 2 ∨ d = 3 ∨ d = 4 := by omega
    rcases this with rfl | rfl | rfl | rfl | rfl <;> exact ⟨_, rfl, by decide, by decide⟩
  have hu29 : u.natAbs < 2 ^ 97 := by rw [p29] at hub; have : (2:Nat)^97 = 158456325028528675187087900672 := by decide
                                      omega
  refine s_ixL (new_at _ _) hu ?_
  bv_omega
  refine take_s (S2.push _) hup (divb_pow hu29 (by decide)) fun g m3 a3 b3 S3 o3 => ?_
  bv_omega
  refine take_s S3 (by decide) (divb_small (by decide)) fun w m4 a4 b4 S4 o4 => ?_
  bv_omega
  have hw : (1 - 2 * w : Int) = 1 ∨ (1 - 2 * w : Int) = -1 := by omega
  have hd : (1 - 2 * w : Int).natAbs < 2 ^ 1 := by rcases hw with h | h <;> rw [h] <;> decide
  refine s_mul (mulOk_r (by omega)) ?_
  have ea : (1 + e).natAbs < 2 ^ 97 := by omega
  have ha := natAbs_mul_lt ea hd
  have hb : (1 + g).natAbs < 2 ^ 97 := by omega
  have hg0 : (1 + g) ≠ 0 := by omega
  bv_omega
  refine s_of (lfrac_eq _ _ hg0 (divb_pow hb (by decide)) _) ?_
  refine h _ _ (sz_divInt hg0 (Nat.lt_of_lt_of_le ha (Nat.pow_le_pow_right (by decide) (by decide))) (Nat.lt_of_lt_of_le hb (Nat.pow_le_pow_right (by decide) (by decide)))) ?_ S4 ((((o1.keep.trans (Ext.app _ _).keep).trans o2.keep).trans (Ext.app _ _).keep).trans (o3.keep.trans o4.keep))
  intro z
  have z := zero_divInt hg0 z
  have h1 : (1 + e) ≠ 0 := by omega
  have h2 : (1 - 2 * w) ≠ 0 := by omega
  exact Int.mul_ne_zero h1 h2 z
end
section
variable {m : Mem} {Q : MV → Mem → Prop} {E : Str → Mem → Prop}
end
end Sp

namespace Sp
open PySem MP MF
local macro_rules
  | `(tactic| simp! only [$xs,*]) => `(tactic| try simp only [w_seq, w_set, w_par, w_asg, w_e1, w_e2, w_tup, w_lst, w_dct0, w_call, w_aL1, w_aL0, w_tE, w_tB, w_tAnd, w_tOr, w_tNot, w_eNot, w_eIf, w_ret, w_expr, w_if, w_pass, w_raise, w_gName, w_gSub, w_gTup, w_gAll1, w_gAll0, var_zero, var_succ, run_int, run_str, run_c, Res.wp_ok, List.map_cons, List.map_nil, List.replicate_succ, List.replicate_zero, List.cons_append, List.nil_append, List.append_nil, List.set_cons_zero, List.set_cons_succ, List.length_cons, List.length_nil, o_add, o_sub, o_neg, o_abs, o_lt, o_le, o_gt, o_ge, o_eqi, o_nei, o_bl, tr_bl, o_ix0, o_ix1, o_ix2, o_ix3, o_ix4, if_bl, if_bl', true_and, and_true, decide_true, decide_false, Bool.not_true, Bool.not_false, Bool.false_eq_true, if_true, if_false, $xs,*])
  | `(tactic| simp! only [$xs,*] at $h:ident) => `(tactic| try simp only [w_seq, w_set, w_par, w_asg, w_e1, w_e2, w_tup, w_lst, w_dct0, w_call, w_aL1, w_aL0, w_tE, w_tB, w_tAnd, w_tOr, w_tNot, w_eNot, w_eIf, w_ret, w_expr, w_if, w_pass, w_raise, w_gName, w_gSub, w_gTup, w_gAll1, w_gAll0, var_zero, var_succ, run_int, run_str, run_c, Res.wp_ok, List.map_cons, List.map_nil, List.replicate_succ, List.replicate_zero, List.cons_append, List.nil_append, List.append_nil, List.set_cons_zero, List.set_cons_succ, List.length_cons, List.length_nil, o_add, o_sub, o_neg, o_abs, o_lt, o_le, o_gt, o_ge, o_eqi, o_nei, o_bl, tr_bl, o_ix0, o_ix1, o_ix2, o_ix3, o_ix4, if_bl, if_bl', true_and, and_true, decide_true, decide_false, Bool.not_true, Bool.not_false, Bool.false_eq_true, if_true, if_false, $xs,*] at $h:ident)
  | `(tactic| bv_omega) => `(tactic| repeat (with_reducible (first | refine s_ok ?_ | refine s_nx ?_ | refine s_rt ?_ | refine s_seq ?_ | refine s_set ?_ | refine s_var (by with_unfolding_all rfl) ?_ | refine s_int ?_ | refine s_str ?_ | refine s_c ?_ | refine s_e2 ?_ | refine s_e1 ?_ | refine s_call ?_ | refine s_aL1 ?_ | refine s_aL0 ?_ | refine s_tup ?_ | refine s_lst ?_ | refine s_line (by with_unfolding_all rfl) ?_ | refine s_if ?_ | refine s_tB ?_ | refine s_tE ?_ | refine s_bl ?_ | refine s_trb ?_ | refine s_tAnd ?_ | refine s_tOr ?_ | refine s_tNot ?_ | refine s_yes ?_ | refine s_eNot ?_ | refine s_eIf ?_ | refine s_eAnd ?_ | refine s_eOr ?_ | refine s_exbl ?_ | refine s_ret ?_ | refine s_expr ?_ | refine s_pass ?_ | refine s_asg ?_ | refine s_gName ?_ | refine s_gSub ?_ | refine s_gTup (by with_unfolding_all rfl) ?_ | refine s_gAll1 ?_ | refine s_gAll0 ?_ | refine s_par ?_ | refine s_dct0 ?_ | refine s_T ?_ | refine s_F ?_ | refine s_nT ?_ | refine s_nF ?_ | refine s_add ?_ | refine s_sub ?_ | refine s_lt ?_ | refine s_gt ?_ | refine s_le ?_ | refine s_ge ?_ | refine s_eqi ?_ | refine s_nei ?_ | refine s_eqs ?_ | refine s_nes ?_ | refine s_neg ?_ | refine s_abs ?_ | refine s_lenT ?_ | refine s_ixT (by with_unfolding_all rfl) ?_ | refine s_lenL (by assumption) ?_ | refine s_ixL (by assumption) (by with_unfolding_all rfl) ?_ | refine s_lenD (by assumption) ?_ | refine s_trL (by assumption) ?_ | refine s_cut ?_ | refine s_partN ?_ | refine s_partS ?_ | refine s_exint ?_ | refine s_cutT ?_ | refine s_cutL (by assumption) ?_ | refine s_eDct ?_ | refine s_pairs1 ?_ | refine s_pairs0 ?_ | refine s_eChain ?_ | refine s_eOrT ?_ | refine s_intB ?_ | refine s_retN ?_ | refine s_raise ?_ | refine s_ex ?_ | refine s_bk ?_ | refine s_ct ?_ | refine s_break ?_ | refine s_cont ?_ | refine s_join ?_ | refine s_exstr ?_ | refine s_get2 ?_ | refine s_append ?_ | refine s_isNon ?_ | refine s_notNon ?_ | refine s_max ?_ | refine s_min ?_ | refine s_par3 ?_ | refine s_mul (by first | assumption | exact mulOk_l (by decide) | exact mulOk_r (by decide)) ?_ | refine s_mod (by first | assumption | decide) ?_ | refine s_div (by first | assumption | exact ⟨by decide, divb_small (by decide)⟩) ?_ | refine s_yesI (by first | assumption | decide) ?_ | refine s_noI (by first | assumption | decide) ?_ | refine s_nyesI (by first | assumption | decide) ?_ | refine s_nnoI (by first | assumption | decide) ?_)))
/-! SpX84: fractions as texts, points as texts. -/
section
variable {α : Type} {m : Mem} {it : MI} {keep : Mem → Prop} {gg : MG} {own : List Nat} {t : MT} {e : ME} {f0 : Fr}
/-- a comprehension over what stands for a list -/
theorem comp_at (m0 : Mem) (xs : List α) (g : α → MV) (G : α → Option MV) (hit : it f0 m0 = .ok ⟨xs.map g, keep, none⟩ m) (hk : ∀ m', Ext m m' → keep m') (hl : xs.length < LINE)
    (hs : ∀ a ∈ xs, ∀ M : Mem, Ext m M → (gg (g a) (wipe f0 own) M).wp { nx := fun f1 m1 => m1 = M ∧ (t f1 M).wp (fun b m2 => m2 = M ∧ b = (G a).isSome) (fun _ _ => False) ∧ ((G a).isSome = true → (e f1 M).wp (fun y m2 => m2 = M ∧ G a = some y) (fun _ _ => False)), rt := fun _ _ => False }) :
    eComp own it gg t e f0 m0 = .ok (.ref m.length) (m ++ [.lst (xs.filterMap G)]) := by
  refine res_eq fun Q E h => ?_
  rw [w_comp hit rfl]
  refine comp_inv (fun vs acc m' => ∃ pre rest, xs = pre ++ rest ∧ vs = rest.map g ∧ acc = pre.filterMap G ∧ m' = m ++ [.lst acc]) ⟨[], xs, rfl, rfl, rfl, rfl⟩ ?_ ?_ ?_
  · rintro vs acc m' ⟨pre, _, _, _, _, rfl⟩
    exact ⟨hk _ (Ext.app _ _), new_at _ _⟩
  · rintro v vs acc m' ⟨pre, rest, e0, ev, ea, rfl⟩
    cases rest with
    | nil => cases ev
    | cons a rest =>
      injection ev with e1 e2
      subst e1
      refine SR.wp_mono (hs a (by rw [e0]; simp) _ (Ext.app _ _)) (fun f1 m1 h1 => ?_) (fun _ _ h => h.elim) (fun _ _ h => h.elim) (fun _ _ h => h.elim) (fun _ _ _ h => h.elim)
      obtain ⟨rfl, h1, h2⟩ := h1
      refine Res.wp_mono h1 (fun b m2 hb => ?_) fun _ _ h => h.elim
      obtain ⟨rfl, rfl⟩ := hb
      cases hF : (G a).isSome with
      | false =>
        rw [if_neg (by decide)]
        refine ⟨pre ++ [a], rest, by rw [e0]; simp, e2, ?_, rfl⟩
        rw [List.filterMap_append, ea]
        cases hq : G a with
        | none => simp [hq]
        | some y => rw [hq] at hF; cases hF
      | true =>
        rw [if_pos rfl]
        refine Res.wp_mono (h2 hF) (fun y m3 hy => ?_) fun _ _ h => h.elim
        obtain ⟨rfl, hy⟩ := hy
        have hpl : pre.length + 1 ≤ xs.length := by rw [e0]; simp
        have hfl := List.length_filterMap_le G pre
        refine ⟨new_at _ _, ?_, pre ++ [a], rest, by rw [e0]; simp, e2, ?_, set_new _ _ _⟩
        · rw [ea]; omega
        · rw [List.filterMap_append, ea]; simp [hy]
  · rintro acc m' ⟨pre, rest, e0, ev, ea, rfl⟩
    cases rest with
    | nil =>
      rw [List.append_nil] at e0
      subst e0 ea
      exact h
    | cons a r => cases ev
end
/-! ### texts -/
theorem str_extA {a b : Str} (h : a.cps = b.cps) : a = b := by cases a; cases b; cases h; rfl
theorem len_app (a b : Str) : (a ++ b).length = a.length + b.length := Array.size_append ..
theorem emp_app (a : Str) : Str.empty ++ a = a := str_extA (Array.empty_append)
theorem int_len {i : Int} {k : Nat} (hk : 0 < k) (h : i.natAbs < 2 ^ k) : (Str.ofString (toString i)).length ≤ k + 1 := by
  rw [show (Str.ofString (toString i)).length = (toString i).length from ofString_length _]
  cases i with
  | ofNat m =>
    have e : toString (Int.ofNat m) = Nat.repr m := rfl
    rw [e]
    exact Nat.le_succ_of_le (nat_repr_length_le hk h)
  | negSucc m =>
    have e : toString (Int.negSucc m) = "-" ++ Nat.repr (m + 1) := rfl
    rw [e, String.length_append]
    have e1 : "-".length = 1 := rfl
    have e2 := nat_repr_length_le hk (show m + 1 < 2 ^ k from h)
    omega
/-- a fraction as a text -/
def ftxt (q : Rat) : Str := if q.den = 1 then Str.ofString (toString q.num) else Str.ofString (toString q.num) ++ "/" ++ Str.ofString (toString (q.den : Int))
theorem ftxt_len {q : Rat} (h : Sz 1000 q) : (ftxt q).length ≤ 3000 := by
  have h1 := int_len (by decide) h.1
  have h2 := int_len (i := (q.den : Int)) (k := 1000) (by decide) (by exact h.2)
  unfold ftxt
  split
  · omega
  · rw [len_app, len_app]
    have : ("/" : Str).length = 1 := by decide
    omega
theorem strb_lt {i : Int} (h : i.natAbs < 2 ^ 1000) : i.natAbs < STRB := Nat.lt_trans h (by unfold STRB; exact Nat.pow_lt_pow_right (by decide) (by decide))
theorem o_strI {i : Int} {m : Mem} (h : i.natAbs < 2 ^ 1000) : oStrI (.int i) m = .ok (.str (Str.ofString (toString i))) m := by
  unfold oStrI; simp only [if_pos (strb_lt h)]
theorem o_addS {a b : Str} {m : Mem} (h : (a ++ b).length ≤ LINE) : oAdd (.str a) (.str b) m = .ok (.str (a ++ b)) m := by
  unfold oAdd; rw [len_app] at h; simp only [if_pos h]
section
variable {m : Mem} {q : Rat}
theorem ftext_eq (h : Sz 1000 q) : f_fraction_text_b06341 [fr q] m = .ok (.str (ftxt q)) m := by
  have h1 := int_len (by decide) h.1
  have h2 := int_len (i := (q.den : Int)) (k := 1000) (by decide) (by exact h.2)
  refine res_eq fun Q E hQ => ?_
  unfold f_fraction_text_b06341 b_fraction_text_b06341
  refine s_fn rfl ?_
  unfold fr
  bv_omega
  refine s_ite (fun h0 => ?_) (fun h0 => ?_)
  · bv_omega
    refine s_of (o_strI h.1) ?_
    have e : ftxt q = Str.ofString (toString q.num) := if_pos (by omega)
    rw [e] at hQ
    exact hQ
  · bv_omega
    refine s_of (o_strI h.1) ?_
    bv_omega
    refine s_of (o_addS (by rw [len_app]; have : ("/" : Str).length = 1 := by decide
                            simp only [LINE]; omega)) ?_
    bv_omega
    refine s_of (o_strI (i := (q.den : Int)) (by exact h.2)) ?_
    refine s_of (o_addS (by rw [len_app, len_app]; have : ("/" : Str).length = 1 := by decide
                            simp only [LINE]; omega)) ?_
    have e : ftxt q = Str.ofString (toString q.num) ++ "/" ++ Str.ofString (toString (q.den : Int)) := if_neg (by omega)
    rw [e] at hQ
    exact hQ
theorem s_eFs {ps : List ME} {fr : Fr} {Q : MV → Mem → Prop} {E : Str → Mem → Prop} (h : (js ps Str.empty fr m).wp (fun out m1 => Q (.str out) m1) E) : (eFs ps fr m).wp Q E := by
  unfold eFs; rw [Res.wp_bind]; exact h
theorem s_js0 {acc : Str} {fr : Fr} {Q : Str → Mem → Prop} {E : Str → Mem → Prop} (h : Q acc m) : (js [] acc fr m).wp Q E := h
theorem s_js1 {p : ME} {ps : List ME} {acc : Str} {fr : Fr} {Q : Str → Mem → Prop} {E : Str → Mem → Prop} (h : (p fr m).wp (fun x m1 => ∃ y, x = .str y ∧ (acc ++ y).length ≤ LINE ∧ (js ps (acc ++ y) fr m1).wp Q E) E) : (js (p :: ps) acc fr m).wp Q E := by
  unfold js
  rw [Res.wp_bind]
  refine Res.wp_mono h (fun x m1 h => ?_) fun _ _ h => h
  obtain ⟨y, rfl, h1, h⟩ := h
  simp only [if_pos h1]
  exact h
theorem o_fmtI {i : Int} (h : i.natAbs < 2 ^ 1000) : oFmt (.int i) m = .ok (.str (Str.ofString (toString i))) m := by
  unfold oFmt; exact o_strI h
theorem lftext_eq (h : Sz 1000 q) : f_L_fraction_text_a4f65c [fr q] m = .ok (.str (ftxt q)) m := by
  have h1 := int_len (by decide) h.1
  have h2 := int_len (i := (q.den : Int)) (k := 1000) (by decide) (by exact h.2)
  refine res_eq fun Q E hQ => ?_
  unfold f_L_fraction_text_a4f65c b_L_fraction_text_a4f65c
  refine s_fn rfl ?_
  unfold fr
  bv_omega
  have l1 : ("/" : Str).length = 1 := by decide
  refine s_ite (fun h0 => ?_) (fun h0 => ?_)
  · bv_omega
    refine s_of (o_strI h.1) ?_
    have e : ftxt q = Str.ofString (toString q.num) := if_pos (by omega)
    rw [e] at hQ
    exact hQ
  · bv_omega
    refine s_eFs ?_
    refine s_js1 ?_
    bv_omega
    refine s_of (o_fmtI h.1) ?_
    refine ⟨_, rfl, by rw [emp_app]; simp only [LINE]; omega, ?_⟩
    rw [emp_app]
    refine s_js1 ?_
    bv_omega
    refine ⟨_, rfl, by rw [len_app]; simp only [LINE]; omega, ?_⟩
    refine s_js1 ?_
    bv_omega
    refine s_of (o_fmtI (i := (q.den : Int)) (by exact h.2)) ?_
    refine ⟨_, rfl, by rw [len_app, len_app]; simp only [LINE]; omega, ?_⟩
    refine s_js0 ?_
    have e : ftxt q = Str.ofString (toString q.num) ++ "/" ++ Str.ofString (toString (q.den : Int)) := if_neg (by omega)
    rw [e] at hQ
    exact hQ
end
/-- the words of a point -/
def ptw (ps : Mp) (k : Str) : Str := k ++ " = " ++ ftxt ((lkA ps k).getD 0)
def pws (ps : Mp) : List Str := (sortS (ps.map (·.1))).map (ptw ps)
def ptx (ps : Mp) : Str := if pws ps = [] then "nothing" else Str.join ", " (pws ps)
theorem join_pos {sep w : Str} {ws : List Str} (h : 0 < w.length) : 0 < (Str.join sep (w :: ws)).length := by
  cases ws with
  | nil => exact h
  | cons x xs => show 0 < (w ++ sep ++ Str.join sep (x :: xs)).length; rw [len_app, len_app]; omega
theorem join_len (sep : Str) (B : Nat) : ∀ ws : List Str, (∀ w ∈ ws, w.length ≤ B) → (Str.join sep ws).length ≤ ws.length * (B + sep.length)
  | [], _ => Nat.zero_le _
  | [x], h => by have := h x (by simp); show x.length ≤ 1 * _; omega
  | x :: y :: r, h => by
    have h1 := h x (by simp)
    have h2 := join_len sep B (y :: r) fun w hw => h w (by simp [hw])
    show (x ++ sep ++ Str.join sep (y :: r)).length ≤ _
    rw [len_app, len_app, List.length_cons, Nat.succ_mul]
    omega
section
variable {m : Mem} {a : Nat} {ps : Mp} {Q : MV → Mem → Prop} {E : Str → Mem → Prop}
theorem sortS_len (ks : List Str) : (sortS ks).length = ks.length := (sortS_perm ks).length_eq
theorem sortS_mem {ks : List Str} {k : Str} : k ∈ sortS ks ↔ k ∈ ks := (sortS_perm ks).mem_iff
theorem keysS_toD : ∀ ps : Mp, keysS (toD ps) = some (ps.map (·.1))
  | [] => rfl
  | p :: r => by
    show (keysS (toD r)).map (p.1 :: ·) = _
    rw [keysS_toD r]; rfl
structure PtOk (m : Mem) (a : Nat) (ps : Mp) : Prop where
  at_ : m[a]? = some (.dct false (toD ps))
  nd : nd ps
  nm : ∀ p ∈ ps, IsName p.1
  sz : ∀ p ∈ ps, Sz 1000 p.2
  len : ps.length ≤ 20
theorem o_sortD (h : m[a]? = some (.dct false (toD ps))) (hl : ps.length < 64) : oSortAny (.ref a) m = .ok (.ref m.length) (m ++ [.lst ((sortS (ps.map (·.1))).map .str)]) := by
  unfold oSortAny
  simp only [h, keysS_toD, if_pos (show (ps.map (·.1)).length < 64 by rw [List.length_map]; exact hl)]
  rfl
theorem ptw_len (P : PtOk m a ps) {k : Str} (hk : k ∈ ps.map (·.1)) : (ptw ps k).length ≤ 4000 ∧ 0 < (ptw ps k).length := by
  obtain ⟨p, hp, rfl⟩ := List.mem_map.mp hk
  have h1 : p.1.length ≤ 6 := (P.nm p hp).2.1
  have hq : Sz 1000 ((lkA ps p.1).getD 0) := by
    cases e : lkA ps p.1 with
    | none => exact Sz.mono (sz_zero (Nat.le_refl 1)) (by decide)
    | some q => exact P.sz _ (lkA_mem e)
  have h2 := ftxt_len hq
  have h3 : (" = " : Str).length = 3 := by decide
  unfold ptw
  rw [len_app, len_app]
  omega
theorem sum_le (B : Nat) : ∀ ws : List Str, (∀ w ∈ ws, w.length ≤ B) → (ws.map (·.length)).sum ≤ ws.length * B
  | [], _ => Nat.zero_le _
  | x :: r, h => by
    have h1 := h x (by simp)
    have h2 := sum_le B r fun w hw => h w (by simp [hw])
    rw [List.map_cons, List.sum_cons, List.length_cons, Nat.succ_mul]
    omega
theorem o_joinL {k : Nat} {ws : List Str} {sep : Str} (h : m[k]? = some (.lst (ws.map MV.str))) (hw : ∀ w ∈ ws, w.length ≤ 4000) (hl : ws.length ≤ 20) (hs : sep.length ≤ 10) : oJoin (.str sep) (.ref k) m = .ok (.str (Str.join sep ws)) m := by
  have h1 := sum_le 4000 ws hw
  have h2 : ws.length * 4000 ≤ 20 * 4000 := Nat.mul_le_mul_right _ hl
  have h3 : ws.length * sep.length ≤ 20 * 10 := Nat.mul_le_mul hl hs
  unfold oJoin
  rw [seqOf_lst h]
  simp only [Option.bind_some, strsOf_strs, if_pos (show (ws.map (·.length)).sum + ws.length * sep.length ≤ LINE by simp only [LINE]; omega)]
theorem pws_ok (P : PtOk m a ps) : (∀ w ∈ pws ps, w.length ≤ 4000 ∧ 0 < w.length) ∧ (pws ps).length ≤ 20 := by
  refine ⟨fun w hw => ?_, ?_⟩
  · obtain ⟨k, hk, rfl⟩ := List.mem_map.mp hw
    exact ptw_len P (sortS_mem.mp hk)
  · unfold pws; rw [List.length_map, sortS_len, List.length_map]; exact P.len
theorem s_trS {z : Str} {QB : Bool → Mem → Prop} {E : Str → Mem → Prop} (h : z.length ≤ LINE) (hq : QB (z.length != 0) m) : (truth (.str z) m).wp QB E := by
  unfold truth; simp only [if_pos h]; exact hq
theorem point_text_s (P : PtOk m a ps) (h : ∀ m', Ext m m' → Q (.str (ptx ps)) m') : (f_point_text_bda4de [.ref a] m).wp Q E := by
  have hl := P.len
  unfold f_point_text_bda4de b_point_text_bda4de
  refine s_fn rfl ?_
  bv_omega
  have x1 := Ext.app m [MO.lst ((sortS (ps.map (·.1))).map .str)]
  have hit : iSeq (e1 oSortAny (eVar 0)) (List.map some [MV.ref a] ++ List.replicate 2 none) m = .ok ⟨(sortS (ps.map (·.1))).map MV.str, fun M => M[m.length]? = some (.lst ((sortS (ps.map (·.1))).map MV.str)), none⟩ (m ++ [.lst ((sortS (ps.map (·.1))).map .str)]) :=
    it_lst (by show (e1 oSortAny (eVar 0) _ m) = _; unfold e1; rw [show eVar 0 (List.map some [MV.ref a] ++ List.replicate 2 none) m = .ok (.ref a) m from rfl]; exact o_sortD P.at_ (by omega)) (new_at _ _)
  refine s_of (comp_at m (sortS (ps.map (·.1))) MV.str (fun k => some (.str (ptw ps k))) hit (fun M x => x _ _ (new_at _ _)) (by rw [sortS_len, List.length_map]; simp only [LINE]; omega) ?_) ?_
  · intro k hk M hM
    have hk2 := sortS_mem.mp hk
    obtain ⟨p, hp, rfl⟩ := List.mem_map.mp hk2
    have hnm := P.nm p hp
    have h1 : p.1.length ≤ 6 := hnm.2.1
    have hv := mem_lkA P.nd hp
    have hln := ptw_len P hk2
    have hq : ftxt ((lkA ps p.1).getD 0) = ftxt p.2 := by rw [hv]; rfl
    have hs := P.sz p hp
    have h3 : (" = " : Str).length = 3 := by decide
    bv_omega
    refine ⟨rfl, ⟨rfl, rfl⟩, fun _ => ?_⟩
    bv_omega
    refine s_of (o_addS (by rw [len_app]; simp only [LINE]; omega)) ?_
    bv_omega
    refine s_ixD (hM _ _ (x1 _ _ P.at_)) (by rfl) (show getK (toD ps) (.inr p.1) = some (fr p.2) by rw [show toD ps = toK fr ps from rfl, getK_toK, hv]; rfl) ?_
    bv_omega
    refine s_of (ftext_eq hs) ?_
    bv_omega
    have hw : ptw ps p.1 = p.1 ++ " = " ++ ftxt p.2 := by unfold ptw; rw [hq]
    refine s_of (o_addS (by rw [← hw]; simp only [LINE]; omega)) ?_
    exact ⟨rfl, by rw [hw]⟩
  rw [fm_some]
  bv_omega
  have hpw := pws_ok P
  have e1 : (sortS (ps.map (·.1))).map (fun k => MV.str (ptw ps k)) = (pws ps).map MV.str := by unfold pws; rw [List.map_map]; rfl
  have hp0 : ptx ps = if pws ps = [] then ("nothing" : Str) else Str.join ", " (pws ps) := rfl
  rw [e1]
  have hs2 : (", " : Str).length = 2 := by decide
  have x2 := x1.trans (Ext.app _ [MO.lst ((pws ps).map MV.str)])
  refine s_of (o_joinL (new_at _ _) (fun w hw => (hpw.1 w hw).1) hpw.2 (by omega)) ?_
  generalize m ++ [MO.lst ((sortS (ps.map (·.1))).map .str)] ++ [MO.lst ((pws ps).map MV.str)] = m2 at x2 ⊢
  have hjl := join_len ", " 4000 (pws ps) fun w hw => (hpw.1 w hw).1
  have h2 : (pws ps).length * (4000 + (", " : Str).length) ≤ 20 * 4002 := Nat.mul_le_mul hpw.2 (by omega)
  refine s_trS (by simp only [LINE]; omega) ?_
  cases hw : pws ps with
  | nil =>
    rw [hw, if_pos rfl] at hp0
    have : (Str.join ", " []).length = 0 := rfl
    rw [this]
    bv_omega
    rw [hp0] at h
    exact h m2 x2
  | cons w ws =>
    have hpos := join_pos (sep := ", ") (ws := ws) (hpw.1 w (by rw [hw]; simp)).2
    rw [hw, if_neg (by simp)] at hp0
    have : ((Str.join ", " (w :: ws)).length != 0) = true := by simp; omega
    rw [this, if_pos rfl]
    rw [hp0] at h
    exact h m2 x2
theorem shares_text_s (P : PtOk m a ps) (h : ∀ m', Ext m m' → Q (.str (ptx ps)) m') : (f_shares_text_e02e58 [.ref a] m).wp Q E := by
  unfold f_shares_text_e02e58 b_shares_text_e02e58
  refine s_fn rfl ?_
  bv_omega
  refine point_text_s P fun m' x => ?_
  exact h m' x
theorem listed_s (P : PtOk m a ps) (h : ∀ m', Ext m m' → Q (.str (ptx ps)) m') : (f_L_listed_7e5a9d [.ref a] m).wp Q E := by
  have hl := P.len
  unfold f_L_listed_7e5a9d b_L_listed_7e5a9d
  refine s_fn rfl ?_
  bv_omega
  have x1 := Ext.app m [MO.lst ((sortS (ps.map (·.1))).map .str)]
  have hit : iSeq (e1 oSortAny (eVar 0)) (List.map some [MV.ref a] ++ List.replicate 2 none) m = .ok ⟨(sortS (ps.map (·.1))).map MV.str, fun M => M[m.length]? = some (.lst ((sortS (ps.map (·.1))).map MV.str)), none⟩ (m ++ [.lst ((sortS (ps.map (·.1))).map .str)]) :=
    it_lst (by show (e1 oSortAny (eVar 0) _ m) = _; unfold e1; rw [show eVar 0 (List.map some [MV.ref a] ++ List.replicate 2 none) m = .ok (.ref a) m from rfl]; exact o_sortD P.at_ (by omega)) (new_at _ _)
  refine s_of (comp_at m (sortS (ps.map (·.1))) MV.str (fun k => some (.str (ptw ps k))) hit (fun M x => x _ _ (new_at _ _)) (by rw [sortS_len, List.length_map]; simp only [LINE]; omega) ?_) ?_
  · intro k hk M hM
    have hk2 := sortS_mem.mp hk
    obtain ⟨p, hp, rfl⟩ := List.mem_map.mp hk2
    have hnm := P.nm p hp
    have h1 : p.1.length ≤ 6 := hnm.2.1
    have hv := mem_lkA P.nd hp
    have hln := ptw_len P hk2
    have hq : ftxt ((lkA ps p.1).getD 0) = ftxt p.2 := by rw [hv]; rfl
    have hs := P.sz p hp
    have h3 : (" = " : Str).length = 3 := by decide
    bv_omega
    refine ⟨rfl, ⟨rfl, rfl⟩, fun _ => ?_⟩
    bv_omega
    refine s_of (o_addS (by rw [len_app]; simp only [LINE]; omega)) ?_
    bv_omega
    refine s_ixD (hM _ _ (x1 _ _ P.at_)) (by rfl) (show getK (toD ps) (.inr p.1) = some (fr p.2) by rw [show toD ps = toK fr ps from rfl, getK_toK, hv]; rfl) ?_
    bv_omega
    refine s_of (lftext_eq hs) ?_
    bv_omega
    have hw : ptw ps p.1 = p.1 ++ " = " ++ ftxt p.2 := by unfold ptw; rw [hq]
    refine s_of (o_addS (by rw [← hw]; simp only [LINE]; omega)) ?_
    exact ⟨rfl, by rw [hw]⟩
  rw [fm_some]
  bv_omega
  have hpw := pws_ok P
  have e1 : (sortS (ps.map (·.1))).map (fun k => MV.str (ptw ps k)) = (pws ps).map MV.str := by unfold pws; rw [List.map_map]; rfl
  have hp0 : ptx ps = if pws ps = [] then ("nothing" : Str) else Str.join ", " (pws ps) := rfl
  rw [e1]
  have hs2 : (", " : Str).length = 2 := by decide
  have x2 := x1.trans (Ext.app _ [MO.lst ((pws ps).map MV.str)])
  have hn := new_at (m ++ [MO.lst ((sortS (ps.map (·.1))).map .str)]) (MO.lst ((pws ps).map MV.str))
  generalize m ++ [MO.lst ((sortS (ps.map (·.1))).map .str)] ++ [MO.lst ((pws ps).map MV.str)] = m2 at x2 hn ⊢
  refine s_lenL hn ?_
  rw [List.length_map]
  bv_omega
  refine s_ite (fun h0 => ?_) (fun h0 => ?_)
  · bv_omega
    have e : pws ps = [] := List.length_eq_zero_iff.mp (by omega)
    rw [if_pos e] at hp0
    rw [hp0] at h
    exact h m2 x2
  · bv_omega
    refine s_of (o_joinL hn (fun w hw => (hpw.1 w hw).1) hpw.2 (by omega)) ?_
    rw [if_neg (by intro e; rw [e] at h0; exact h0 rfl)] at hp0
    rw [hp0] at h
    exact h m2 x2
end
end Sp

namespace Sp
open PySem MP MF
local macro_rules
  | `(tactic| simp! only [$xs,*]) => `(tactic| try simp only [w_seq, w_set, w_par, w_asg, w_e1, w_e2, w_tup, w_lst, w_dct0, w_call, w_aL1, w_aL0, w_tE, w_tB, w_tAnd, w_tOr, w_tNot, w_eNot, w_eIf, w_ret, w_expr, w_if, w_pass, w_raise, w_gName, w_gSub, w_gTup, w_gAll1, w_gAll0, var_zero, var_succ, run_int, run_str, run_c, Res.wp_ok, List.map_cons, List.map_nil, List.replicate_succ, List.replicate_zero, List.cons_append, List.nil_append, List.append_nil, List.set_cons_zero, List.set_cons_succ, List.length_cons, List.length_nil, o_add, o_sub, o_neg, o_abs, o_lt, o_le, o_gt, o_ge, o_eqi, o_nei, o_bl, tr_bl, o_ix0, o_ix1, o_ix2, o_ix3, o_ix4, if_bl, if_bl', true_and, and_true, decide_true, decide_false, Bool.not_true, Bool.not_false, Bool.false_eq_true, if_true, if_false, $xs,*])
  | `(tactic| simp! only [$xs,*] at $h:ident) => `(tactic| try simp only [w_seq, w_set, w_par, w_asg, w_e1, w_e2, w_tup, w_lst, w_dct0, w_call, w_aL1, w_aL0, w_tE, w_tB, w_tAnd, w_tOr, w_tNot, w_eNot, w_eIf, w_ret, w_expr, w_if, w_pass, w_raise, w_gName, w_gSub, w_gTup, w_gAll1, w_gAll0, var_zero, var_succ, run_int, run_str, run_c, Res.wp_ok, List.map_cons, List.map_nil, List.replicate_succ, List.replicate_zero, List.cons_append, List.nil_append, List.append_nil, List.set_cons_zero, List.set_cons_succ, List.length_cons, List.length_nil, o_add, o_sub, o_neg, o_abs, o_lt, o_le, o_gt, o_ge, o_eqi, o_nei, o_bl, tr_bl, o_ix0, o_ix1, o_ix2, o_ix3, o_ix4, if_bl, if_bl', true_and, and_true, decide_true, decide_false, Bool.not_true, Bool.not_false, Bool.false_eq_true, if_true, if_false, $xs,*] at $h:ident)
  | `(tactic| bv_omega) => `(tactic| repeat (with_reducible (first | refine s_ok ?_ | refine s_nx ?_ | refine s_rt ?_ | refine s_seq ?_ | refine s_set ?_ | refine s_var (by with_unfolding_all rfl) ?_ | refine s_int ?_ | refine s_str ?_ | refine s_c ?_ | refine s_e2 ?_ | refine s_e1 ?_ | refine s_call ?_ | refine s_aL1 ?_ | refine s_aL0 ?_ | refine s_tup ?_ | refine s_lst ?_ | refine s_line (by with_unfolding_all rfl) ?_ | refine s_if ?_ | refine s_tB ?_ | refine s_tE ?_ | refine s_bl ?_ | refine s_trb ?_ | refine s_tAnd ?_ | refine s_tOr ?_ | refine s_tNot ?_ | refine s_yes ?_ | refine s_eNot ?_ | refine s_eIf ?_ | refine s_eAnd ?_ | refine s_eOr ?_ | refine s_exbl ?_ | refine s_ret ?_ | refine s_expr ?_ | refine s_pass ?_ | refine s_asg ?_ | refine s_gName ?_ | refine s_gSub ?_ | refine s_gTup (by with_unfolding_all rfl) ?_ | refine s_gAll1 ?_ | refine s_gAll0 ?_ | refine s_par ?_ | refine s_dct0 ?_ | refine s_T ?_ | refine s_F ?_ | refine s_nT ?_ | refine s_nF ?_ | refine s_add ?_ | refine s_sub ?_ | refine s_lt ?_ | refine s_gt ?_ | refine s_le ?_ | refine s_ge ?_ | refine s_eqi ?_ | refine s_nei ?_ | refine s_eqs ?_ | refine s_nes ?_ | refine s_neg ?_ | refine s_abs ?_ | refine s_lenT ?_ | refine s_ixT (by with_unfolding_all rfl) ?_ | refine s_lenL (by assumption) ?_ | refine s_ixL (by assumption) (by with_unfolding_all rfl) ?_ | refine s_lenD (by assumption) ?_ | refine s_trL (by assumption) ?_ | refine s_cut ?_ | refine s_partN ?_ | refine s_partS ?_ | refine s_exint ?_ | refine s_cutT ?_ | refine s_cutL (by assumption) ?_ | refine s_eDct ?_ | refine s_pairs1 ?_ | refine s_pairs0 ?_ | refine s_eChain ?_ | refine s_eOrT ?_ | refine s_intB ?_ | refine s_retN ?_ | refine s_raise ?_ | refine s_ex ?_ | refine s_bk ?_ | refine s_ct ?_ | refine s_break ?_ | refine s_cont ?_ | refine s_join ?_ | refine s_exstr ?_ | refine s_get2 ?_ | refine s_append ?_ | refine s_isNon ?_ | refine s_notNon ?_ | refine s_max ?_ | refine s_min ?_ | refine s_par3 ?_ | refine s_mul (by first | assumption | exact mulOk_l (by decide) | exact mulOk_r (by decide)) ?_ | refine s_mod (by first | assumption | decide) ?_ | refine s_div (by first | assumption | exact ⟨by decide, divb_small (by decide)⟩) ?_ | refine s_yesI (by first | assumption | decide) ?_ | refine s_noI (by first | assumption | decide) ?_ | refine s_nyesI (by first | assumption | decide) ?_ | refine s_nnoI (by first | assumption | decide) ?_)))
/-! SpK84: points as texts. -/
theorem PtOk.kp {m m' : Mem} {a n : Nat} {ps : Mp} (P : PtOk m a ps) (K : Keep n m m') (h : a ≠ n) : PtOk m' a ps := ⟨K _ _ h P.at_, P.nd, P.nm, P.sz, P.len⟩
theorem PtOk.ext {m m' : Mem} {a : Nat} {ps : Mp} (P : PtOk m a ps) (x : Ext m m') : PtOk m' a ps := ⟨x _ _ P.at_, P.nd, P.nm, P.sz, P.len⟩
theorem law_k84 : ∀ (ns : List Int) (o : MO), ns.length ≤ 63 → (o = MO.lst (ns.map MV.int) ∨ o = MO.rol (ns.map MV.int)) → (f_law_f275d9 [.ref 0] [o]).wp (fun v _ => v = .bl true) (fun _ _ => False) := by
  intro ns0 o hl ho
  unfold f_law_f275d9 b_law_f275d9
  refine s_fn rfl ?_
  bv_omega
  refine fresh_wp ho hl _ _ fun m0 S0 => ?_
  bv_omega
  refine s_mid (fun fr m => ∃ x2 x3 x4 x5 x6, fr = [some (.ref 0), some (.ref 2), x2, x3, x4, x5, x6]) ?_ ?_
  · refine s_forR ?_
    bv_omega
    refine ⟨by decide, ?_⟩
    refine for_inv (fun vs fr m => Sta 2 1 m ∧ ∃ x2 x3 x4 x5 x6, fr = [some (.ref 0), some (.ref 2), x2, x3, x4, x5, x6]) ⟨S0, none, none, none, none, none, rfl⟩ (fun _ _ _ _ => trivial) ?_ ?_
    · rintro v vs fr m ⟨S, x2, x3, x4, x5, x6, rfl⟩
      bv_omega
      have xA : Ext m (m ++ [MO.dct false []] ++ [MO.dct false []]) := (Ext.app _ _).trans (Ext.app _ _)
      have g3 := app_at [MO.dct false []] (new_at m (MO.dct false []))
      have g4 := new_at (m ++ [MO.dct false []]) (MO.dct false [])
      have e4 : (m ++ [MO.dct false []]).length = m.length + 1 := by simp
      have eA : (m ++ [MO.dct false []] ++ [MO.dct false []]).length = m.length + 2 := by simp
      rw [e4] at g4 ⊢
      have SA : Sta 2 1 (m ++ [MO.dct false []] ++ [MO.dct false []]) := S.kx (xA.kx []) (by simp) (by simp)
      have hlt := S.lt
      generalize m.length = a3 at g3 g4 eA hlt ⊢
      generalize m ++ [MO.dct false []] ++ [MO.dct false []] = mA at xA g3 g4 eA SA ⊢
      refine s_mid (fun fr m' => Sta 2 1 m' ∧ (∃ ps qs, PtOk m' a3 ps ∧ PtOk m' (a3 + 1) qs) ∧ ∃ x2 x5 x6, fr = [some (.ref 0), some (.ref 2), x2, some (.ref a3), some (.ref (a3 + 1)), x5, x6]) ?_ ?_
      · refine s_forE ?_
        bv_omega
        refine take_s SA (by decide) (divb_small (by decide)) fun t m5 a5 b5 S5 o5 => ?_
        have g35 := o5.keep _ _ (by omega) g3
        have g45 := o5.keep _ _ (by omega) g4
        bv_omega
        refine names2_s S5 (by omega) (by omega) fun an m6 ns ha hal hai _ S6 K6 hma => ?_
        have g36 := K6 _ _ (by omega) g35
        have g46 := K6 _ _ (by omega) g45
        have han : a3 + 1 < an := by have := o5.1; omega
        refine .inr ⟨_, _, rfl, ha, ?_⟩
        refine for_inv (fun vs fr m' => Sta 2 1 m' ∧ (∀ v ∈ vs, ∃ z ∈ ns, v = .str z) ∧ m'[an]? = some (.lst (ns.map MV.str)) ∧ (∃ ps qs, PtOk m' a3 ps ∧ PtOk m' (a3 + 1) qs ∧ ps.length + vs.length ≤ 10 ∧ qs.length + vs.length ≤ 10) ∧ ∃ x2 x5 x6, fr = [some (.ref 0), some (.ref 2), x2, some (.ref a3), some (.ref (a3 + 1)), x5, x6]) ⟨S6, ?_, ha, ⟨[], [], ⟨g36, nd_nil, (fun _ h => (nomatch h)), (fun _ h => (nomatch h)), by simp⟩, ⟨g46, nd_nil, (fun _ h => (nomatch h)), (fun _ h => (nomatch h)), by simp⟩, by rw [List.length_map]; show 0 + _ ≤ _; omega, by rw [List.length_map]; show 0 + _ ≤ _; omega⟩, _, _, _, rfl⟩ ?_ ?_ ?_
        · intro v hv
          obtain ⟨z, hz, rfl⟩ := List.mem_map.mp hv
          exact ⟨z, hz, rfl⟩
        · rintro vs fr m' ⟨_, _, h, _⟩
          exact h
        · rintro v vs fr m7 ⟨S7, hv, hn7, ⟨ps, qs, P7, Q7, hp, hq⟩, x2, x5, x6, rfl⟩
          obtain ⟨z, hz, rfl⟩ := hv _ List.mem_cons_self
          have hv2 := fun v hv' => hv v (List.mem_cons_of_mem _ hv')
          rw [List.length_cons] at hp hq
          bv_omega
          refine number_s S7 fun q1 m8 sq1 S8 o8 => ?_
          bv_omega
          refine far_number_s S8 fun q2 m9 sq2 _ S9 K9 => ?_
          bv_omega
          refine take_s S9 (by decide) (divb_small (by decide)) fun t m10 b10 c10 S10 o10 => ?_
          have K10 : Keep 2 m7 m10 := (o8.keep.trans K9).trans o10.keep
          have P10 := P7.kp K10 (by omega)
          have Q10 := Q7.kp K10 (by omega)
          have hn10 := K10 _ _ (show an ≠ 2 by omega) hn7
          have hat : ∃ q, atI [fr q1, fr q2] t = some (fr q) ∧ Sz 1000 q := by
            have ht : t = 0 ∨ t = 1 := by omega
            rcases ht with rfl | rfl
            · exact ⟨q1, rfl, sq1.mono (by decide)⟩
            · exact ⟨q2, rfl, sq2.mono (by decide)⟩
          obtain ⟨q, hat, sq⟩ := hat
          refine s_ixT hat ?_
          bv_omega
          refine ⟨_, put_sum P10.at_ (by simp only [LINE]; omega), ?_⟩
          have hnm : ∀ {ps : Mp}, (∀ p ∈ ps, IsName p.1) → ∀ p ∈ setA ps z q, IsName p.1 := fun {ps} h p hp => by
            rcases mem_setA hp with rfl | ⟨hp, _⟩
            · exact hai z hz
            · exact h p hp
          have hsz : ∀ {ps : Mp}, (∀ p ∈ ps, Sz 1000 p.2) → ∀ p ∈ setA ps z q, Sz 1000 p.2 := fun {ps} h p hp => by
            rcases mem_setA hp with rfl | ⟨hp, _⟩
            · exact sq
            · exact h p hp
          have l1 := setA_len ps z q
          have l2 := setA_len qs z q
          have P11 : PtOk (m10.set a3 (.dct false (toD (setA ps z q)))) a3 (setA ps z q) := ⟨set_at _ P10.at_, nd_setA P7.nd _ _, hnm P7.nm, hsz P7.sz, by omega⟩
          have Q11 : PtOk (m10.set a3 (.dct false (toD (setA ps z q)))) (a3 + 1) qs := ⟨set_ne _ (by omega) Q10.at_, Q7.nd, Q7.nm, Q7.sz, Q7.len⟩
          have hn11 := set_ne (.dct false (toD (setA ps z q))) (show a3 ≠ an by omega) hn10
          have S11 : Sta 2 1 (m10.set a3 (.dct false (toD (setA ps z q)))) := S10.other _ (by omega) (by omega)
          generalize m10.set a3 (.dct false (toD (setA ps z q))) = m11 at P11 Q11 hn11 S11 ⊢
          have hg : getK (toD (setA ps z q)) (.inr z) = some (fr q) := by rw [show toD (setA ps z q) = toK fr (setA ps z q) from rfl, getK_toK, lkA_setA, if_pos rfl]; rfl
          bv_omega
          refine s_ixD P11.at_ (by rfl) hg ?_
          unfold fr
          bv_omega
          refine s_nite (fun h0 => ?_) (fun h0 => ?_)
          · bv_omega
            refine s_ixD P11.at_ (by rfl) hg ?_
            bv_omega
            refine ⟨_, put_sum Q11.at_ (by simp only [LINE]; omega), ?_⟩
            bv_omega
            refine ⟨S11.other _ (by omega) (by omega), hv2, set_ne _ (by omega) hn11, ⟨setA ps z q, setA qs z q, ⟨set_ne _ (by omega) P11.at_, P11.nd, P11.nm, P11.sz, P11.len⟩, ⟨set_at _ Q11.at_, nd_setA Q7.nd _ _, hnm Q7.nm, hsz Q7.sz, by omega⟩, by omega, by omega⟩, _, _, _, rfl⟩
          · bv_omega
            exact ⟨S11, hv2, hn11, ⟨setA ps z q, qs, P11, Q11, by omega, by omega⟩, _, _, _, rfl⟩
        · rintro fr m7 ⟨S7, _, _, ⟨ps, qs, P7, Q7, _, _⟩, x2, x5, x6, rfl⟩
          exact ⟨S7, ⟨ps, qs, P7, Q7⟩, _, _, _, rfl⟩
      · rintro fr m7 ⟨S7, ⟨ps, qs, P7, Q7⟩, x2, x5, x6, rfl⟩
        bv_omega
        refine s_of (o_dictD P7.at_) ?_
        bv_omega
        refine s_of (o_dictD (app_at _ Q7.at_)) ?_
        bv_omega
        have lE : (m7 ++ [MO.dct false (toD ps)] ++ [MO.dct false (toD qs)]).length = m7.length + 2 := by simp
        have lD : (m7 ++ [MO.dct false (toD ps)]).length = m7.length + 1 := by simp
        have xE : Ext m7 (m7 ++ [MO.dct false (toD ps)] ++ [MO.dct false (toD qs)] ++ [MO.lst [.ref m7.length, .ref (m7 ++ [MO.dct false (toD ps)]).length]]) := ((Ext.app _ _).trans (Ext.app _ _)).trans (Ext.app _ _)
        have r1 := app_at [MO.lst [.ref m7.length, .ref (m7 ++ [MO.dct false (toD ps)]).length]] (app_at [MO.dct false (toD qs)] (new_at m7 (MO.dct false (toD ps))))
        have r2 := app_at [MO.lst [.ref m7.length, .ref (m7 ++ [MO.dct false (toD ps)]).length]] (new_at (m7 ++ [MO.dct false (toD ps)]) (MO.dct false (toD qs)))
        have r3 := new_at (m7 ++ [MO.dct false (toD ps)] ++ [MO.dct false (toD qs)]) (MO.lst [.ref m7.length, .ref (m7 ++ [MO.dct false (toD ps)]).length])
        rw [lD] at r1 r2 r3 xE ⊢
        rw [lE] at r3 ⊢
        generalize m7 ++ [MO.dct false (toD ps)] ++ [MO.dct false (toD qs)] ++ [MO.lst [.ref m7.length, .ref (m7.length + 1)]] = m8 at xE r1 r2 r3 ⊢
        have P8 := P7.ext xE
        have Q8 := Q7.ext xE
        have P8' : PtOk m8 m7.length ps := ⟨r1, P7.nd, P7.nm, P7.sz, P7.len⟩
        have Q8' : PtOk m8 (m7.length + 1) qs := ⟨r2, Q7.nd, Q7.nm, Q7.sz, Q7.len⟩
        have S8 : Sta 2 1 m8 := S7.kx (xE.kx []) (by simp) (by simp)
        bv_omega
        refine point_text_s P8' fun m9 x9 => ?_
        bv_omega
        refine listed_s (P8.ext x9) fun m10 x10 => ?_
        have y10 := x9.trans x10
        bv_omega
        refine s_nite (fun h => absurd rfl h) (fun _ => ?_)
        bv_omega
        refine s_ixL (y10 _ _ r3) (by rfl) ?_
        bv_omega
        refine shares_text_s (Q8'.ext y10) fun m11 x11 => ?_
        bv_omega
        refine listed_s ((Q8.ext y10).ext x11) fun m12 x12 => ?_
        have y12 := (y10.trans x11).trans x12
        bv_omega
        refine s_nite (fun h => absurd rfl h) (fun _ => ?_)
        bv_omega
        have yL := y12.trans (Ext.app m12 [MO.lst [.ref a3, .ref (a3 + 1)]])
        have rL := new_at m12 (MO.lst [.ref a3, .ref (a3 + 1)])
        refine s_of (o_neLst (yL _ _ r3) rL rfl ?_) ?_
        · have q1 : eqF 23 (m12 ++ [MO.lst [.ref a3, .ref (a3 + 1)]]) (.ref m7.length) (.ref a3) = some true := by rw [show 23 = 20 + 3 from rfl, eqF_sum 20 P7.nd (yL _ _ r1) (yL _ _ P8.at_), eqM_refl P7.nd]
          have q2 : eqF 23 (m12 ++ [MO.lst [.ref a3, .ref (a3 + 1)]]) (.ref (m7.length + 1)) (.ref (a3 + 1)) = some true := by rw [show 23 = 20 + 3 from rfl, eqF_sum 20 Q7.nd (yL _ _ r2) (yL _ _ Q8.at_), eqM_refl Q7.nd]
          simp only [eqL, q1, q2]
          rfl
        generalize m12 ++ [MO.lst [.ref a3, .ref (a3 + 1)]] = m13 at yL rL ⊢
        bv_omega
        refine s_ixL (yL _ _ r3) (by rfl) ?_
        bv_omega
        refine point_text_s (P8'.ext yL) fun m14 x14 => ?_
        bv_omega
        refine listed_s ((P8.ext yL).ext x14) fun m15 x15 => ?_
        bv_omega
        exact ⟨S8.kx (((yL.trans x14).trans x15).kx []) (by simp) (by simp), _, _, _, _, _, rfl⟩
    · rintro fr m ⟨_, x2, x3, x4, x5, x6, rfl⟩
      exact ⟨_, _, _, _, _, rfl⟩
  · rintro fr m ⟨x2, x3, x4, x5, x6, rfl⟩
    bv_omega
    have P0 : PtOk (m ++ [MO.dct false []]) m.length [] := ⟨new_at _ _, nd_nil, (fun _ h => (nomatch h)), (fun _ h => (nomatch h)), by simp⟩
    refine point_text_s P0 fun m1 x1 => ?_
    bv_omega
    have P1 : PtOk (m1 ++ [MO.dct false []]) m1.length [] := ⟨new_at _ _, nd_nil, (fun _ h => (nomatch h)), (fun _ h => (nomatch h)), by simp⟩
    refine shares_text_s P1 fun m2 x2 => ?_
    bv_omega
    trace_state
    rfl
end Sp

namespace LK
open PySem PySem.Spec PyProof.Rows L2 ML

structure Bn (mg : Str → Option Value) : Prop where
  one : True
  abs : mg "abs" = none
  dict : mg "dict" = none
  enumerate : mg "enumerate" = none
  len : mg "len" = none
  range : mg "range" = none
  sorted : mg "sorted" = none
  str : mg "str" = none
structure Cs (K : PySem.W.Frag) (w : World) (mg : Str → Option Value) : Prop where
  one : True

/-! ### _law_fresh -/
def nn_L_fresh : List Str := ["_law_script"]
theorem sc_L_fresh : FnScope nn_L_fresh ["_law_script"] (defScope st_L_fresh) := ⟨rfl, rfl, rfl, by decide +kernel, rfl, by decide +kernel, by decide +kernel⟩
abbrev cx_L_fresh (P : Program) (w : World) (K : PySem.W.Frag) (mg : Str → Option Value) (base : Heap) (f : Addr) (cdv : Value) (A : Around) (outer : List Env) (s : Shared) (H : Hp) (E : XK) : Cx := cxOf (L2.CX P w) P w K mg base nn_L_fresh "_law_fresh" (defScope st_L_fresh) f cdv A outer s H E
theorem lk_L_fresh {P : Program} {w : World} {K : PySem.W.Frag} {mg : Str → Option Value} {base : Heap} {f : Addr} {cdv : Value} {A : Around} {outer : List Env} {s : Shared} {H : Hp} {E : XK} (B : Bn mg) (C : Cs K w mg)  (hr : Room 0 (cx_L_fresh P w K mg base f cdv A outer s H E).A) :
    LSs (cx_L_fresh P w K mg base f cdv A outer s H E) (fun cls d _ H => E cls d H) none (defBody st_L_fresh) MF.b_L_fresh_5c16a1 := by
  have hu64 : (cx_L_fresh P w K mg base f cdv A outer s H E).A.units + 64 < cLine := by have := hr.un; omega
  have hu1 : (cx_L_fresh P w K mg base f cdv A outer s H E).A.units + 1 < cLine := by have := hr.un; omega
  have nm : Nm (cx_L_fresh P w K mg base f cdv A outer s H E) [("_law_script", 0, true)] [] := nm_of (NN := nn_L_fresh) (fnAll := true) (sc := defScope st_L_fresh) (by decide +kernel) rfl sc_L_fresh.nd rfl (fun _ _ => rfl)
  have tk : Takes (cx_L_fresh P w K mg base f cdv A outer s H E) (fun cls d _ H => E cls d H) := tk_fn
  exact lss_one (ls_ret (le_lst (la_cons (le_cut (le_var nm 0) lo_none (lo_some le_int)) (la_cons le_int (la_cons le_int (la_cons le_bl la_nil))))))
theorem ok_L_fresh {P : Program} {w : World} {K : PySem.W.Frag} {mg : Str → Option Value} {base : Heap} {f : Addr} {fd : FuncData} {dvs : List V} (B : Bn mg) (C : Cs K w mg)  (F : FunD K "_law_fresh" "_law_fresh" (defArgs st_L_fresh) (defBody st_L_fresh) (defScope st_L_fresh) dvs [] f fd) :
    FnOk P w K mg base (L2.CX P w) 1 f fd ["_law_script"] (spM K mg 1 MF.f_L_fresh_5c16a1) :=
  fn_ok F sc_L_fresh rfl rfl fun cdv A outer s H E hr => lk_L_fresh B C  hr
/-! ### _law_mixed -/
def nn_L_mixed : List Str := ["_law_seed", "_law_primes", "_law_number_here", "_law_k", "_law_prime", "_law_far", "_law_square", "_law_power"]
theorem sc_L_mixed : FnScope nn_L_mixed ["_law_seed"] (defScope st_L_mixed) := ⟨rfl, rfl, rfl, by decide +kernel, rfl, by decide +kernel, by decide +kernel⟩
abbrev cx_L_mixed (P : Program) (w : World) (K : PySem.W.Frag) (mg : Str → Option Value) (base : Heap) (f : Addr) (cdv : Value) (A : Around) (outer : List Env) (s : Shared) (H : Hp) (E : XK) : Cx := cxOf (L2.CX P w) P w K mg base nn_L_mixed "_law_mixed" (defScope st_L_mixed) f cdv A outer s H E
theorem lk_L_mixed {P : Program} {w : World} {K : PySem.W.Frag} {mg : Str → Option Value} {base : Heap} {f : Addr} {cdv : Value} {A : Around} {outer : List Env} {s : Shared} {H : Hp} {E : XK} (B : Bn mg) (C : Cs K w mg)  (hr : Room 0 (cx_L_mixed P w K mg base f cdv A outer s H E).A) :
    LSs (cx_L_mixed P w K mg base f cdv A outer s H E) (fun cls d _ H => E cls d H) none (defBody st_L_mixed) MF.b_L_mixed_8bea50 := by
  have hu64 : (cx_L_mixed P w K mg base f cdv A outer s H E).A.units + 64 < cLine := by have := hr.un; omega
  have hu1 : (cx_L_mixed P w K mg base f cdv A outer s H E).A.units + 1 < cLine := by have := hr.un; omega
  have nm : Nm (cx_L_mixed P w K mg base f cdv A outer s H E) [("_law_seed", 0, true), ("_law_primes", 1, true), ("_law_number_here", 2, true), ("_law_k", 3, true), ("_law_prime", 4, true), ("_law_far", 5, true), ("_law_square", 6, true), ("_law_power", 7, true)] ["enumerate"] := nm_of (NN := nn_L_mixed) (fnAll := true) (sc := defScope st_L_mixed) (by decide +kernel) rfl sc_L_mixed.nd rfl (fun _ _ => rfl)
  have tk : Takes (cx_L_mixed P w K mg base f cdv A outer s H E) (fun cls d _ H => E cls d H) := tk_fn
  exact lss_cons (ls_set nm 1 (le_tup (la_cons le_int (la_cons le_int (la_cons le_int (la_cons le_int (la_cons le_int la_nil))))))) (lss_cons (ls_set nm 2 le_int) (lss_cons (ls_for (passes_of rfl) rfl (li_enum nm 0 B.enumerate (le_var nm 1)) (lg_tup (n := 2) rfl (lgs_cons (lg_name nm 3) (lgs_cons (lg_name nm 4) lgs_nil)) rfl) (lss_cons (ls_set nm 5 (le_op op_addM good_add nx_add (le_var nm 0) (le_ix hu1 (le_tup (la_cons le_int (la_cons le_int (la_cons le_int (la_cons le_int (la_cons le_int la_nil)))))) (le_var nm 3) (fun _ _ => rfl)))) (lss_cons (ls_set nm 5 (le_op op_modN good_mod nx_mod (le_op op_mulM good_mul nx_mul (le_var nm 5) (le_op op_addM good_add nx_add le_int (le_op op_mulM good_mul nx_mul le_int (le_var nm 3)))) (le_var nm 4))) (lss_cons (ls_set nm 6 (le_op op_modN good_mod nx_mod (le_op op_mulM good_mul nx_mul (le_var nm 5) (le_var nm 5)) (le_var nm 4))) (lss_cons (ls_set nm 7 (le_op op_modN good_mod nx_mod (le_op op_mulM good_mul nx_mul (le_op op_modN good_mod nx_mod (le_op op_mulM good_mul nx_mul (le_var nm 6) (le_var nm 6)) (le_var nm 4)) (le_var nm 5)) (le_var nm 4))) (lss_one (ls_set nm 2 (le_op op_addM good_add nx_add (le_op op_mulM good_mul nx_mul (le_var nm 2) (le_var nm 4)) (le_var nm 7))))))))) (lss_one (ls_ret (le_var nm 2)))))
theorem ok_L_mixed {P : Program} {w : World} {K : PySem.W.Frag} {mg : Str → Option Value} {base : Heap} {f : Addr} {fd : FuncData} {dvs : List V} (B : Bn mg) (C : Cs K w mg)  (F : FunD K "_law_mixed" "_law_mixed" (defArgs st_L_mixed) (defBody st_L_mixed) (defScope st_L_mixed) dvs [] f fd) :
    FnOk P w K mg base (L2.CX P w) 1 f fd ["_law_seed"] (spM K mg 1 MF.f_L_mixed_8bea50) :=
  fn_ok F sc_L_mixed rfl rfl fun cdv A outer s H E hr => lk_L_mixed B C  hr
/-! ### _law_fill -/
def nn_L_fill : List Str := ["_law_state", "_law_cells", "_law_at", "_law_seed"]
theorem sc_L_fill : FnScope nn_L_fill ["_law_state"] (defScope st_L_fill) := ⟨rfl, rfl, rfl, by decide +kernel, rfl, by decide +kernel, by decide +kernel⟩
abbrev cx_L_fill (P : Program) (w : World) (K : PySem.W.Frag) (mg : Str → Option Value) (base : Heap) (f : Addr) (cdv : Value) (A : Around) (outer : List Env) (s : Shared) (H : Hp) (E : XK) : Cx := cxOf (L2.CX P w) P w K mg base nn_L_fill "_law_fill" (defScope st_L_fill) f cdv A outer s H E
theorem lk_L_fill {P : Program} {w : World} {K : PySem.W.Frag} {mg : Str → Option Value} {base : Heap} {f : Addr} {cdv : Value} {A : Around} {outer : List Env} {s : Shared} {H : Hp} {E : XK} (B : Bn mg) (C : Cs K w mg) (H_L_mixed : FnM P w K mg base 1 "_law_mixed" 1 MF.f_L_mixed_8bea50) (hr : Room 1 (cx_L_fill P w K mg base f cdv A outer s H E).A) :
    LSs (cx_L_fill P w K mg base f cdv A outer s H E) (fun cls d _ H => E cls d H) none (defBody st_L_fill) MF.b_L_fill_107c3d := by
  have hu64 : (cx_L_fill P w K mg base f cdv A outer s H E).A.units + 64 < cLine := by have := hr.un; omega
  have hu1 : (cx_L_fill P w K mg base f cdv A outer s H E).A.units + 1 < cLine := by have := hr.un; omega
  have nm : Nm (cx_L_fill P w K mg base f cdv A outer s H E) [("_law_state", 0, true), ("_law_cells", 1, true), ("_law_at", 2, true), ("_law_seed", 3, true)] ["len", "_law_mixed"] := nm_of (NN := nn_L_fill) (fnAll := true) (sc := defScope st_L_fill) (by decide +kernel) rfl sc_L_fill.nd rfl (fun _ _ => rfl)
  have tk : Takes (cx_L_fill P w K mg base f cdv A outer s H E) (fun cls d _ H => E cls d H) := tk_fn
  exact lss_cons (ls_par nm rfl 1 2 (by decide) (la_cons (le_ix hu1 (le_var nm 0) le_int (fun _ _ => rfl)) (la_cons (le_ix hu1 (le_var nm 0) le_int (fun _ _ => rfl)) la_nil))) (lss_cons (ls_set nm 3 (le_op op_addM good_add nx_add (le_op op_mulM good_mul nx_mul le_int (le_var nm 2)) le_int)) (lss_cons (ls_if (lt_cmp op_gt good_gt nx_gt (le_b1 call_lenM good_len nx_len nm 0 B.len boot_len (le_var nm 1)) le_int (nomark _)) (lss_cons (ls_set nm 3 (le_op op_mulM good_mul nx_mul le_int (le_op op_fdivA good_div nx_div (le_var nm 2) (le_b1 call_lenM good_len nx_len nm 0 B.len boot_len (le_var nm 1))))) (lss_one (ls_set nm 3 (le_op op_addM good_add nx_add (le_var nm 3) (le_ix hu1 (le_var nm 1) (le_op op_modN good_mod nx_mod (le_var nm 2) (le_b1 call_lenM good_len nx_len nm 0 B.len boot_len (le_var nm 1))) (fun _ _ => rfl)))))) lss_nil) (lss_cons (ls_asg (le_op op_addM good_add nx_add (le_var nm 2) le_int) (lg_sub hu1 (le_var nm 0) le_int)) (lss_cons (ls_asg (le_or (le_cmp op_ge good_ge nx_ge (le_var nm 2) (le_b1 call_lenM good_len nx_len nm 0 B.len boot_len (le_var nm 1)) (nomark _)) (le_one (le_cmp op_lt good_lt nx_lt (le_var nm 3) (le_pow (by decide) (by decide)) (nomark _)))) (lg_sub hu1 (le_var nm 0) le_int)) (lss_one (ls_if (lt_truth (le_ix hu1 (le_var nm 0) le_int (fun _ _ => rfl))) (lss_one (ls_asg (le_call nm 1 H_L_mixed (hr.mono (by decide)) tk (la_cons (le_var nm 3) la_nil)) (lg_sub hu1 (le_var nm 0) le_int))) (lss_one (ls_asg (le_op op_sub good_sub nx_sub (le_var nm 3) (le_pow (by decide) (by decide))) (lg_sub hu1 (le_var nm 0) le_int)))))))))
theorem ok_L_fill {P : Program} {w : World} {K : PySem.W.Frag} {mg : Str → Option Value} {base : Heap} {f : Addr} {fd : FuncData} {dvs : List V} (B : Bn mg) (C : Cs K w mg) (H_L_mixed : FnM P w K mg base 1 "_law_mixed" 1 MF.f_L_mixed_8bea50) (F : FunD K "_law_fill" "_law_fill" (defArgs st_L_fill) (defBody st_L_fill) (defScope st_L_fill) dvs [] f fd) :
    FnOk P w K mg base (L2.CX P w) 2 f fd ["_law_state"] (spM K mg 1 MF.f_L_fill_107c3d) :=
  fn_ok F sc_L_fill rfl rfl fun cdv A outer s H E hr => lk_L_fill B C H_L_mixed hr
/-! ### _law_take -/
def nn_L_take : List Str := ["_law_state", "_law_many", "_law_turns", "_law_digit"]
theorem sc_L_take : FnScope nn_L_take ["_law_state", "_law_many"] (defScope st_L_take) := ⟨rfl, rfl, rfl, by decide +kernel, rfl, by decide +kernel, by decide +kernel⟩
abbrev cx_L_take (P : Program) (w : World) (K : PySem.W.Frag) (mg : Str → Option Value) (base : Heap) (f : Addr) (cdv : Value) (A : Around) (outer : List Env) (s : Shared) (H : Hp) (E : XK) : Cx := cxOf (L2.CX P w) P w K mg base nn_L_take "_law_take" (defScope st_L_take) f cdv A outer s H E
theorem lk_L_take {P : Program} {w : World} {K : PySem.W.Frag} {mg : Str → Option Value} {base : Heap} {f : Addr} {cdv : Value} {A : Around} {outer : List Env} {s : Shared} {H : Hp} {E : XK} (B : Bn mg) (C : Cs K w mg) (H_L_fill : FnM P w K mg base 2 "_law_fill" 1 MF.f_L_fill_107c3d) (hr : Room 2 (cx_L_take P w K mg base f cdv A outer s H E).A) :
    LSs (cx_L_take P w K mg base f cdv A outer s H E) (fun cls d _ H => E cls d H) none (defBody st_L_take) MF.b_L_take_f2d2c3 := by
  have hu64 : (cx_L_take P w K mg base f cdv A outer s H E).A.units + 64 < cLine := by have := hr.un; omega
  have hu1 : (cx_L_take P w K mg base f cdv A outer s H E).A.units + 1 < cLine := by have := hr.un; omega
  have nm : Nm (cx_L_take P w K mg base f cdv A outer s H E) [("_law_state", 0, true), ("_law_many", 1, true), ("_law_turns", 2, true), ("_law_digit", 3, true)] ["_law_fill"] := nm_of (NN := nn_L_take) (fnAll := true) (sc := defScope st_L_take) (by decide +kernel) rfl sc_L_take.nd rfl (fun _ _ => rfl)
  have tk : Takes (cx_L_take P w K mg base f cdv A outer s H E) (fun cls d _ H => E cls d H) := tk_fn
  exact lss_cons (ls_set nm 2 le_int) (lss_cons (ls_while (passes_of rfl) ((lw_and (lt_cmp op_lt good_lt nx_lt (le_var nm 2) le_int (nomark _)) (lw_and1 ((lw_or (lt_cmp (op_eqM hu64) good_eq nx_eq (le_ix hu1 (le_var nm 0) le_int (fun _ _ => rfl)) le_int (nomark _)) (lw_or1 ((lw_and (lt_truth (le_ix hu1 (le_var nm 0) le_int (fun _ _ => rfl))) (lw_and1 (lt_cmp op_lt good_lt nx_lt (le_ix hu1 (le_var nm 0) le_int (fun _ _ => rfl)) (le_op op_mulM good_mul nx_mul (le_var nm 1) le_int) (nomark _)))).pt))).pt))).pt) (lss_cons (ls_expr (le_call nm 0 H_L_fill (hr.mono (by decide)) tk (la_cons (le_var nm 0) la_nil))) (lss_cons (ls_aug nm 2 le_int) (lss_one (ls_if ((lw_and (lt_truth (le_ix hu1 (le_var nm 0) le_int (fun _ _ => rfl))) (lw_and1 (lt_cmp op_lt good_lt nx_lt (le_ix hu1 (le_var nm 0) le_int (fun _ _ => rfl)) (le_op op_mulM good_mul nx_mul (le_var nm 1) le_int) (nomark _)))).pt) (lss_one (ls_asg (le_op op_addM good_add nx_add (le_ix hu1 (le_var nm 0) le_int (fun _ _ => rfl)) (le_op op_mulM good_mul nx_mul (le_op op_mulM good_mul nx_mul (le_var nm 1) le_int) (le_op op_addM good_add nx_add le_int (le_op op_modN good_mod nx_mod (le_ix hu1 (le_var nm 0) le_int (fun _ _ => rfl)) le_int)))) (lg_sub hu1 (le_var nm 0) le_int))) lss_nil))))) (lss_cons (ls_set nm 3 (le_op op_modN good_mod nx_mod (le_ix hu1 (le_var nm 0) le_int (fun _ _ => rfl)) (le_var nm 1))) (lss_cons (ls_asg (le_op op_fdivA good_div nx_div (le_ix hu1 (le_var nm 0) le_int (fun _ _ => rfl)) (le_var nm 1)) (lg_sub hu1 (le_var nm 0) le_int)) (lss_one (ls_ret (le_var nm 3))))))
theorem ok_L_take {P : Program} {w : World} {K : PySem.W.Frag} {mg : Str → Option Value} {base : Heap} {f : Addr} {fd : FuncData} {dvs : List V} (B : Bn mg) (C : Cs K w mg) (H_L_fill : FnM P w K mg base 2 "_law_fill" 1 MF.f_L_fill_107c3d) (F : FunD K "_law_take" "_law_take" (defArgs st_L_take) (defBody st_L_take) (defScope st_L_take) dvs [] f fd) :
    FnOk P w K mg base (L2.CX P w) 3 f fd ["_law_state", "_law_many"] (spM K mg 2 MF.f_L_take_f2d2c3) :=
  fn_ok F sc_L_take rfl rfl fun cdv A outer s H E hr => lk_L_take B C H_L_fill hr
/-! ### _law_some_name -/
def nn_L_some_name : List Str := ["_law_state", "_law_letters", "_law_own", "_law_way", "_law_word", "_law_k"]
theorem sc_L_some_name : FnScope nn_L_some_name ["_law_state"] (defScope st_L_some_name) := ⟨rfl, rfl, rfl, by decide +kernel, rfl, by decide +kernel, by decide +kernel⟩
abbrev cx_L_some_name (P : Program) (w : World) (K : PySem.W.Frag) (mg : Str → Option Value) (base : Heap) (f : Addr) (cdv : Value) (A : Around) (outer : List Env) (s : Shared) (H : Hp) (E : XK) : Cx := cxOf (L2.CX P w) P w K mg base nn_L_some_name "_law_some_name" (defScope st_L_some_name) f cdv A outer s H E
theorem lk_L_some_name {P : Program} {w : World} {K : PySem.W.Frag} {mg : Str → Option Value} {base : Heap} {f : Addr} {cdv : Value} {A : Around} {outer : List Env} {s : Shared} {H : Hp} {E : XK} (B : Bn mg) (C : Cs K w mg) (H_L_take : FnM P w K mg base 3 "_law_take" 2 MF.f_L_take_f2d2c3) (hr : Room 3 (cx_L_some_name P w K mg base f cdv A outer s H E).A) :
    LSs (cx_L_some_name P w K mg base f cdv A outer s H E) (fun cls d _ H => E cls d H) none (defBody st_L_some_name) MF.b_L_some_name_bb4a29 := by
  have hu64 : (cx_L_some_name P w K mg base f cdv A outer s H E).A.units + 64 < cLine := by have := hr.un; omega
  have hu1 : (cx_L_some_name P w K mg base f cdv A outer s H E).A.units + 1 < cLine := by have := hr.un; omega
  have nm : Nm (cx_L_some_name P w K mg base f cdv A outer s H E) [("_law_state", 0, true), ("_law_letters", 1, true), ("_law_own", 2, true), ("_law_way", 3, true), ("_law_word", 4, true)] ["_law_take", "range"] := nm_of (NN := nn_L_some_name) (fnAll := true) (sc := defScope st_L_some_name) (by decide +kernel) rfl sc_L_some_name.nd rfl (fun _ _ => rfl)
  have tk : Takes (cx_L_some_name P w K mg base f cdv A outer s H E) (fun cls d _ H => E cls d H) := tk_fn
  exact lss_cons (ls_set nm 1 le_str) (lss_cons (ls_set nm 2 (le_tup (la_cons le_str (la_cons le_str (la_cons le_str (la_cons le_str (la_cons le_str (la_cons le_str (la_cons le_str (la_cons le_str (la_cons le_str (la_cons le_str (la_cons le_str (la_cons le_str la_nil)))))))))))))) (lss_cons (ls_set nm 3 (le_call nm 0 H_L_take (hr.mono (by decide)) tk (la_cons (le_var nm 0) (la_cons le_int la_nil)))) (lss_cons (ls_set nm 4 (le_join le_str (le_lc rfl nm.nd (li_range1 nm 1 B.range (le_op op_addM good_add nx_add le_int (le_call nm 0 H_L_take (hr.mono (by decide)) tk (la_cons (le_var nm 0) (la_cons le_int la_nil))))) (blkOk_by (own := [("_law_k", 5)]) (N := nn_L_some_name) (sc := (defScope st_L_some_name)) (by decide +kernel)) (lgc_name (nmb_of (NN := nn_L_some_name) (sc := (defScope st_L_some_name)) (N := [("_law_letters", 1, false), ("_law_state", 0, false), ("_law_k", 5, true)]) (G := ["_law_take"]) (by decide +kernel) rfl nm.nd rfl) 2 (by decide)) ltc_nil (fun _ _ _ _ _ => le_ix hu1 (le_var ((nmb_of (NN := nn_L_some_name) (sc := (defScope st_L_some_name)) (N := [("_law_letters", 1, false), ("_law_state", 0, false), ("_law_k", 5, true)]) (G := ["_law_take"]) (by decide +kernel) rfl nm.nd rfl) _ _ _ _ _) 0) (le_call ((nmb_of (NN := nn_L_some_name) (sc := (defScope st_L_some_name)) (N := [("_law_letters", 1, false), ("_law_state", 0, false), ("_law_k", 5, true)]) (G := ["_law_take"]) (by decide +kernel) rfl nm.nd rfl) _ _ _ _ _) 0 H_L_take (hr.mono (by decide)) takes0 (la_cons (le_var ((nmb_of (NN := nn_L_some_name) (sc := (defScope st_L_some_name)) (N := [("_law_letters", 1, false), ("_law_state", 0, false), ("_law_k", 5, true)]) (G := ["_law_take"]) (by decide +kernel) rfl nm.nd rfl) _ _ _ _ _) 1) (la_cons le_int la_nil))) (fun _ _ => rfl))))) (lss_one (ls_ret (le_ix hu1 (le_tup (la_cons (le_var nm 4) (la_cons (le_ix hu1 (le_var nm 2) (le_call nm 0 H_L_take (hr.mono (by decide)) tk (la_cons (le_var nm 0) (la_cons le_int la_nil))) (fun _ _ => rfl)) (la_cons (le_cut (le_var nm 4) lo_none (lo_some le_int)) (la_cons (le_var nm 4) la_nil))))) (le_var nm 3) (fun _ _ => rfl)))))))
theorem ok_L_some_name {P : Program} {w : World} {K : PySem.W.Frag} {mg : Str → Option Value} {base : Heap} {f : Addr} {fd : FuncData} {dvs : List V} (B : Bn mg) (C : Cs K w mg) (H_L_take : FnM P w K mg base 3 "_law_take" 2 MF.f_L_take_f2d2c3) (F : FunD K "_law_some_name" "_law_some_name" (defArgs st_L_some_name) (defBody st_L_some_name) (defScope st_L_some_name) dvs [] f fd) :
    FnOk P w K mg base (L2.CX P w) 4 f fd ["_law_state"] (spM K mg 1 MF.f_L_some_name_bb4a29) :=
  fn_ok F sc_L_some_name rfl rfl fun cdv A outer s H E hr => lk_L_some_name B C H_L_take hr
/-! ### _law_names -/
def nn_L_names : List Str := ["_law_state", "_law_many", "_law_letters", "_law_names_here", "_law_k", "_law_name", "_law_turns"]
theorem sc_L_names : FnScope nn_L_names ["_law_state", "_law_many"] (defScope st_L_names) := ⟨rfl, rfl, rfl, by decide +kernel, rfl, by decide +kernel, by decide +kernel⟩
abbrev cx_L_names (P : Program) (w : World) (K : PySem.W.Frag) (mg : Str → Option Value) (base : Heap) (f : Addr) (cdv : Value) (A : Around) (outer : List Env) (s : Shared) (H : Hp) (E : XK) : Cx := cxOf (L2.CX P w) P w K mg base nn_L_names "_law_names" (defScope st_L_names) f cdv A outer s H E
theorem lk_L_names {P : Program} {w : World} {K : PySem.W.Frag} {mg : Str → Option Value} {base : Heap} {f : Addr} {cdv : Value} {A : Around} {outer : List Env} {s : Shared} {H : Hp} {E : XK} (B : Bn mg) (C : Cs K w mg) (H_L_some_name : FnM P w K mg base 4 "_law_some_name" 1 MF.f_L_some_name_bb4a29) (hr : Room 4 (cx_L_names P w K mg base f cdv A outer s H E).A) :
    LSs (cx_L_names P w K mg base f cdv A outer s H E) (fun cls d _ H => E cls d H) none (defBody st_L_names) MF.b_L_names_83ad55 := by
  have hu64 : (cx_L_names P w K mg base f cdv A outer s H E).A.units + 64 < cLine := by have := hr.un; omega
  have hu1 : (cx_L_names P w K mg base f cdv A outer s H E).A.units + 1 < cLine := by have := hr.un; omega
  have nm : Nm (cx_L_names P w K mg base f cdv A outer s H E) [("_law_state", 0, true), ("_law_many", 1, true), ("_law_letters", 2, true), ("_law_names_here", 3, true), ("_law_k", 4, true), ("_law_name", 5, true), ("_law_turns", 6, true)] ["range", "_law_some_name"] := nm_of (NN := nn_L_names) (fnAll := true) (sc := defScope st_L_names) (by decide +kernel) rfl sc_L_names.nd rfl (fun _ _ => rfl)
  have tk : Takes (cx_L_names P w K mg base f cdv A outer s H E) (fun cls d _ H => E cls d H) := tk_fn
  exact lss_cons (ls_set nm 2 le_str) (lss_cons (ls_set nm 3 (le_lst la_nil)) (lss_cons (ls_for (passes_of rfl) rfl (li_range1 nm 0 B.range (le_var nm 1)) (lg_name nm 4) (lss_cons (ls_set nm 5 (le_call nm 1 H_L_some_name (hr.mono (by decide)) (takes_unl tk) (la_cons (le_var nm 0) la_nil))) (lss_cons (ls_set nm 6 le_int) (lss_cons (ls_while (passes_of rfl) ((lw_and (lt_cmp (op_inM hu1) good_in nx_in (le_var nm 5) (le_var nm 3) (by rfl)) (lw_and1 (lt_cmp op_lt good_lt nx_lt (le_var nm 6) le_int (nomark _)))).pt) (lss_cons (ls_set nm 5 (le_op op_mulM good_mul nx_mul (le_ix hu1 (le_var nm 2) (le_op op_modN good_mod nx_mod (le_op op_addM good_add nx_add (le_op op_mulM good_mul nx_mul le_int (le_var nm 6)) (le_var nm 4)) le_int) (fun _ _ => rfl)) (le_op op_addM good_add nx_add le_int (le_op op_fdivA good_div nx_div (le_var nm 6) le_int)))) (lss_one (ls_aug nm 6 le_int)))) (lss_one (ls_expr (le_append (le_var nm 3) (le_var nm 5)))))))) (lss_one (ls_ret (le_var nm 3)))))
theorem ok_L_names {P : Program} {w : World} {K : PySem.W.Frag} {mg : Str → Option Value} {base : Heap} {f : Addr} {fd : FuncData} {dvs : List V} (B : Bn mg) (C : Cs K w mg) (H_L_some_name : FnM P w K mg base 4 "_law_some_name" 1 MF.f_L_some_name_bb4a29) (F : FunD K "_law_names" "_law_names" (defArgs st_L_names) (defBody st_L_names) (defScope st_L_names) dvs [] f fd) :
    FnOk P w K mg base (L2.CX P w) 5 f fd ["_law_state", "_law_many"] (spM K mg 2 MF.f_L_names_83ad55) :=
  fn_ok F sc_L_names rfl rfl fun cdv A outer s H E hr => lk_L_names B C H_L_some_name hr
/-! ### fraction_text -/
def nn_fraction_text : List Str := ["number"]
theorem sc_fraction_text : FnScope nn_fraction_text ["number"] (defScope st_fraction_text) := ⟨rfl, rfl, rfl, by decide +kernel, rfl, by decide +kernel, by decide +kernel⟩
abbrev cx_fraction_text (P : Program) (w : World) (K : PySem.W.Frag) (mg : Str → Option Value) (base : Heap) (f : Addr) (cdv : Value) (A : Around) (outer : List Env) (s : Shared) (H : Hp) (E : XK) : Cx := cxOf (L2.CX P w) P w K mg base nn_fraction_text "fraction_text" (defScope st_fraction_text) f cdv A outer s H E
theorem lk_fraction_text {P : Program} {w : World} {K : PySem.W.Frag} {mg : Str → Option Value} {base : Heap} {f : Addr} {cdv : Value} {A : Around} {outer : List Env} {s : Shared} {H : Hp} {E : XK} (B : Bn mg) (C : Cs K w mg)  (hr : Room 0 (cx_fraction_text P w K mg base f cdv A outer s H E).A) :
    LSs (cx_fraction_text P w K mg base f cdv A outer s H E) (fun cls d _ H => E cls d H) none (defBody st_fraction_text) MF.b_fraction_text_b06341 := by
  have hu64 : (cx_fraction_text P w K mg base f cdv A outer s H E).A.units + 64 < cLine := by have := hr.un; omega
  have hu1 : (cx_fraction_text P w K mg base f cdv A outer s H E).A.units + 1 < cLine := by have := hr.un; omega
  have nm : Nm (cx_fraction_text P w K mg base f cdv A outer s H E) [("number", 0, true)] ["str"] := nm_of (NN := nn_fraction_text) (fnAll := true) (sc := defScope st_fraction_text) (by decide +kernel) rfl sc_fraction_text.nd rfl (fun _ _ => rfl)
  have tk : Takes (cx_fraction_text P w K mg base f cdv A outer s H E) (fun cls d _ H => E cls d H) := tk_fn
  exact lss_cons (ls_if (lt_cmp (op_eqM hu64) good_eq nx_eq (le_ix hu1 (le_var nm 0) le_int (fun _ _ => rfl)) le_int (nomark _)) (lss_one (ls_ret (le_t1 call_str_int good_strI nx_strI nm 0 B.str boot_str (le_ix hu1 (le_var nm 0) le_int (fun _ _ => rfl))))) lss_nil) (lss_one (ls_ret (le_op op_addM good_add nx_add (le_op op_addM good_add nx_add (le_t1 call_str_int good_strI nx_strI nm 0 B.str boot_str (le_ix hu1 (le_var nm 0) le_int (fun _ _ => rfl))) le_str) (le_t1 call_str_int good_strI nx_strI nm 0 B.str boot_str (le_ix hu1 (le_var nm 0) le_int (fun _ _ => rfl))))))
theorem ok_fraction_text {P : Program} {w : World} {K : PySem.W.Frag} {mg : Str → Option Value} {base : Heap} {f : Addr} {fd : FuncData} {dvs : List V} (B : Bn mg) (C : Cs K w mg)  (F : FunD K "fraction_text" "fraction_text" (defArgs st_fraction_text) (defBody st_fraction_text) (defScope st_fraction_text) dvs [] f fd) :
    FnOk P w K mg base (L2.CX P w) 1 f fd ["number"] (spM K mg 1 MF.f_fraction_text_b06341) :=
  fn_ok F sc_fraction_text rfl rfl fun cdv A outer s H E hr => lk_fraction_text B C  hr
/-! ### point_text -/
def nn_point_text : List Str := ["point", "words", "unknown"]
theorem sc_point_text : FnScope nn_point_text ["point"] (defScope st_point_text) := ⟨rfl, rfl, rfl, by decide +kernel, rfl, by decide +kernel, by decide +kernel⟩
abbrev cx_point_text (P : Program) (w : World) (K : PySem.W.Frag) (mg : Str → Option Value) (base : Heap) (f : Addr) (cdv : Value) (A : Around) (outer : List Env) (s : Shared) (H : Hp) (E : XK) : Cx := cxOf (L2.CX P w) P w K mg base nn_point_text "point_text" (defScope st_point_text) f cdv A outer s H E
theorem lk_point_text {P : Program} {w : World} {K : PySem.W.Frag} {mg : Str → Option Value} {base : Heap} {f : Addr} {cdv : Value} {A : Around} {outer : List Env} {s : Shared} {H : Hp} {E : XK} (B : Bn mg) (C : Cs K w mg) (H_fraction_text : FnM P w K mg base 1 "fraction_text" 1 MF.f_fraction_text_b06341) (hr : Room 1 (cx_point_text P w K mg base f cdv A outer s H E).A) :
    LSs (cx_point_text P w K mg base f cdv A outer s H E) (fun cls d _ H => E cls d H) none (defBody st_point_text) MF.b_point_text_bda4de := by
  have hu64 : (cx_point_text P w K mg base f cdv A outer s H E).A.units + 64 < cLine := by have := hr.un; omega
  have hu1 : (cx_point_text P w K mg base f cdv A outer s H E).A.units + 1 < cLine := by have := hr.un; omega
  have nm : Nm (cx_point_text P w K mg base f cdv A outer s H E) [("point", 0, true), ("words", 1, true)] ["sorted"] := nm_of (NN := nn_point_text) (fnAll := true) (sc := defScope st_point_text) (by decide +kernel) rfl sc_point_text.nd rfl (fun _ _ => rfl)
  have tk : Takes (cx_point_text P w K mg base f cdv A outer s H E) (fun cls d _ H => E cls d H) := tk_fn
  exact lss_cons (ls_setLc nm 1 rfl rfl rfl rfl (by decide +kernel) (li_seq (le_b1n (call_sortAny rfl) good_sortAny nx_sortAny nm 0 B.sorted boot_sorted (le_var nm 0))) (blkOk_by (own := [("unknown", 2)]) (N := nn_point_text) (sc := (defScope st_point_text)) (by decide +kernel)) (lgc_name (nmb_of (NN := nn_point_text) (sc := (defScope st_point_text)) (N := [("unknown", 2, true), ("point", 0, false)]) (G := ["fraction_text"]) (by decide +kernel) rfl nm.nd rfl) 0 (by decide)) ltc_nil (fun _ _ _ _ _ => le_op op_addM good_add nx_add (le_op op_addM good_add nx_add (le_var ((nmb_of (NN := nn_point_text) (sc := (defScope st_point_text)) (N := [("unknown", 2, true), ("point", 0, false)]) (G := ["fraction_text"]) (by decide +kernel) rfl nm.nd rfl) _ _ _ _ _) 0) le_str) (le_call ((nmb_of (NN := nn_point_text) (sc := (defScope st_point_text)) (N := [("unknown", 2, true), ("point", 0, false)]) (G := ["fraction_text"]) (by decide +kernel) rfl nm.nd rfl) _ _ _ _ _) 0 H_fraction_text (hr.mono (by decide)) takes0 (la_cons (le_ix hu1 (le_var ((nmb_of (NN := nn_point_text) (sc := (defScope st_point_text)) (N := [("unknown", 2, true), ("point", 0, false)]) (G := ["fraction_text"]) (by decide +kernel) rfl nm.nd rfl) _ _ _ _ _) 1) (le_var ((nmb_of (NN := nn_point_text) (sc := (defScope st_point_text)) (N := [("unknown", 2, true), ("point", 0, false)]) (G := ["fraction_text"]) (by decide +kernel) rfl nm.nd rfl) _ _ _ _ _) 0) (fun _ _ => rfl)) la_nil)))) (lss_one (ls_ret (le_orT (le_join le_str (le_var nm 1)) (le_one le_str))))
theorem ok_point_text {P : Program} {w : World} {K : PySem.W.Frag} {mg : Str → Option Value} {base : Heap} {f : Addr} {fd : FuncData} {dvs : List V} (B : Bn mg) (C : Cs K w mg) (H_fraction_text : FnM P w K mg base 1 "fraction_text" 1 MF.f_fraction_text_b06341) (F : FunD K "point_text" "point_text" (defArgs st_point_text) (defBody st_point_text) (defScope st_point_text) dvs [] f fd) :
    FnOk P w K mg base (L2.CX P w) 2 f fd ["point"] (spM K mg 1 MF.f_point_text_bda4de) :=
  fn_ok F sc_point_text rfl rfl fun cdv A outer s H E hr => lk_point_text B C H_fraction_text hr
/-! ### shares_text -/
def nn_shares_text : List Str := ["shares"]
theorem sc_shares_text : FnScope nn_shares_text ["shares"] (defScope st_shares_text) := ⟨rfl, rfl, rfl, by decide +kernel, rfl, by decide +kernel, by decide +kernel⟩
abbrev cx_shares_text (P : Program) (w : World) (K : PySem.W.Frag) (mg : Str → Option Value) (base : Heap) (f : Addr) (cdv : Value) (A : Around) (outer : List Env) (s : Shared) (H : Hp) (E : XK) : Cx := cxOf (L2.CX P w) P w K mg base nn_shares_text "shares_text" (defScope st_shares_text) f cdv A outer s H E
theorem lk_shares_text {P : Program} {w : World} {K : PySem.W.Frag} {mg : Str → Option Value} {base : Heap} {f : Addr} {cdv : Value} {A : Around} {outer : List Env} {s : Shared} {H : Hp} {E : XK} (B : Bn mg) (C : Cs K w mg) (H_point_text : FnM P w K mg base 2 "point_text" 1 MF.f_point_text_bda4de) (hr : Room 2 (cx_shares_text P w K mg base f cdv A outer s H E).A) :
    LSs (cx_shares_text P w K mg base f cdv A outer s H E) (fun cls d _ H => E cls d H) none (defBody st_shares_text) MF.b_shares_text_e02e58 := by
  have hu64 : (cx_shares_text P w K mg base f cdv A outer s H E).A.units + 64 < cLine := by have := hr.un; omega
  have hu1 : (cx_shares_text P w K mg base f cdv A outer s H E).A.units + 1 < cLine := by have := hr.un; omega
  have nm : Nm (cx_shares_text P w K mg base f cdv A outer s H E) [("shares", 0, true)] ["point_text"] := nm_of (NN := nn_shares_text) (fnAll := true) (sc := defScope st_shares_text) (by decide +kernel) rfl sc_shares_text.nd rfl (fun _ _ => rfl)
  have tk : Takes (cx_shares_text P w K mg base f cdv A outer s H E) (fun cls d _ H => E cls d H) := tk_fn
  exact lss_one (ls_ret (le_call nm 0 H_point_text (hr.mono (by decide)) tk (la_cons (le_var nm 0) la_nil)))
theorem ok_shares_text {P : Program} {w : World} {K : PySem.W.Frag} {mg : Str → Option Value} {base : Heap} {f : Addr} {fd : FuncData} {dvs : List V} (B : Bn mg) (C : Cs K w mg) (H_point_text : FnM P w K mg base 2 "point_text" 1 MF.f_point_text_bda4de) (F : FunD K "shares_text" "shares_text" (defArgs st_shares_text) (defBody st_shares_text) (defScope st_shares_text) dvs [] f fd) :
    FnOk P w K mg base (L2.CX P w) 3 f fd ["shares"] (spM K mg 1 MF.f_shares_text_e02e58) :=
  fn_ok F sc_shares_text rfl rfl fun cdv A outer s H E hr => lk_shares_text B C H_point_text hr
/-! ### _law_fraction_text -/
def nn_L_fraction_text : List Str := ["_law_number_here"]
theorem sc_L_fraction_text : FnScope nn_L_fraction_text ["_law_number_here"] (defScope st_L_fraction_text) := ⟨rfl, rfl, rfl, by decide +kernel, rfl, by decide +kernel, by decide +kernel⟩
abbrev cx_L_fraction_text (P : Program) (w : World) (K : PySem.W.Frag) (mg : Str → Option Value) (base : Heap) (f : Addr) (cdv : Value) (A : Around) (outer : List Env) (s : Shared) (H : Hp) (E : XK) : Cx := cxOf (L2.CX P w) P w K mg base nn_L_fraction_text "_law_fraction_text" (defScope st_L_fraction_text) f cdv A outer s H E
theorem lk_L_fraction_text {P : Program} {w : World} {K : PySem.W.Frag} {mg : Str → Option Value} {base : Heap} {f : Addr} {cdv : Value} {A : Around} {outer : List Env} {s : Shared} {H : Hp} {E : XK} (B : Bn mg) (C : Cs K w mg)  (hr : Room 0 (cx_L_fraction_text P w K mg base f cdv A outer s H E).A) :
    LSs (cx_L_fraction_text P w K mg base f cdv A outer s H E) (fun cls d _ H => E cls d H) none (defBody st_L_fraction_text) MF.b_L_fraction_text_a4f65c := by
  have hu64 : (cx_L_fraction_text P w K mg base f cdv A outer s H E).A.units + 64 < cLine := by have := hr.un; omega
  have hu1 : (cx_L_fraction_text P w K mg base f cdv A outer s H E).A.units + 1 < cLine := by have := hr.un; omega
  have nm : Nm (cx_L_fraction_text P w K mg base f cdv A outer s H E) [("_law_number_here", 0, true)] ["str"] := nm_of (NN := nn_L_fraction_text) (fnAll := true) (sc := defScope st_L_fraction_text) (by decide +kernel) rfl sc_L_fraction_text.nd rfl (fun _ _ => rfl)
  have tk : Takes (cx_L_fraction_text P w K mg base f cdv A outer s H E) (fun cls d _ H => E cls d H) := tk_fn
  exact lss_cons (ls_if (lt_cmp (op_eqM hu64) good_eq nx_eq (le_ix hu1 (le_var nm 0) le_int (fun _ _ => rfl)) le_int (nomark _)) (lss_one (ls_ret (le_t1 call_str_int good_strI nx_strI nm 0 B.str boot_str (le_ix hu1 (le_var nm 0) le_int (fun _ _ => rfl))))) lss_nil) (lss_one (ls_ret (le_joined (lj_cons (le_fmt (le_ix hu1 (le_var nm 0) le_int (fun _ _ => rfl))) (lj_cons le_str (lj_cons (le_fmt (le_ix hu1 (le_var nm 0) le_int (fun _ _ => rfl))) (lj_nil)))))))
theorem ok_L_fraction_text {P : Program} {w : World} {K : PySem.W.Frag} {mg : Str → Option Value} {base : Heap} {f : Addr} {fd : FuncData} {dvs : List V} (B : Bn mg) (C : Cs K w mg)  (F : FunD K "_law_fraction_text" "_law_fraction_text" (defArgs st_L_fraction_text) (defBody st_L_fraction_text) (defScope st_L_fraction_text) dvs [] f fd) :
    FnOk P w K mg base (L2.CX P w) 1 f fd ["_law_number_here"] (spM K mg 1 MF.f_L_fraction_text_a4f65c) :=
  fn_ok F sc_L_fraction_text rfl rfl fun cdv A outer s H E hr => lk_L_fraction_text B C  hr
/-! ### _law_listed -/
def nn_L_listed : List Str := ["_law_one", "_law_words", "_law_key"]
theorem sc_L_listed : FnScope nn_L_listed ["_law_one"] (defScope st_L_listed) := ⟨rfl, rfl, rfl, by decide +kernel, rfl, by decide +kernel, by decide +kernel⟩
abbrev cx_L_listed (P : Program) (w : World) (K : PySem.W.Frag) (mg : Str → Option Value) (base : Heap) (f : Addr) (cdv : Value) (A : Around) (outer : List Env) (s : Shared) (H : Hp) (E : XK) : Cx := cxOf (L2.CX P w) P w K mg base nn_L_listed "_law_listed" (defScope st_L_listed) f cdv A outer s H E
theorem lk_L_listed {P : Program} {w : World} {K : PySem.W.Frag} {mg : Str → Option Value} {base : Heap} {f : Addr} {cdv : Value} {A : Around} {outer : List Env} {s : Shared} {H : Hp} {E : XK} (B : Bn mg) (C : Cs K w mg) (H_L_fraction_text : FnM P w K mg base 1 "_law_fraction_text" 1 MF.f_L_fraction_text_a4f65c) (hr : Room 1 (cx_L_listed P w K mg base f cdv A outer s H E).A) :
    LSs (cx_L_listed P w K mg base f cdv A outer s H E) (fun cls d _ H => E cls d H) none (defBody st_L_listed) MF.b_L_listed_7e5a9d := by
  have hu64 : (cx_L_listed P w K mg base f cdv A outer s H E).A.units + 64 < cLine := by have := hr.un; omega
  have hu1 : (cx_L_listed P w K mg base f cdv A outer s H E).A.units + 1 < cLine := by have := hr.un; omega
  have nm : Nm (cx_L_listed P w K mg base f cdv A outer s H E) [("_law_one", 0, true), ("_law_words", 1, true)] ["sorted", "len"] := nm_of (NN := nn_L_listed) (fnAll := true) (sc := defScope st_L_listed) (by decide +kernel) rfl sc_L_listed.nd rfl (fun _ _ => rfl)
  have tk : Takes (cx_L_listed P w K mg base f cdv A outer s H E) (fun cls d _ H => E cls d H) := tk_fn
  exact lss_cons (ls_setLc nm 1 rfl rfl rfl rfl (by decide +kernel) (li_seq (le_b1n (call_sortAny rfl) good_sortAny nx_sortAny nm 0 B.sorted boot_sorted (le_var nm 0))) (blkOk_by (own := [("_law_key", 2)]) (N := nn_L_listed) (sc := (defScope st_L_listed)) (by decide +kernel)) (lgc_name (nmb_of (NN := nn_L_listed) (sc := (defScope st_L_listed)) (N := [("_law_key", 2, true), ("_law_one", 0, false)]) (G := ["_law_fraction_text"]) (by decide +kernel) rfl nm.nd rfl) 0 (by decide)) ltc_nil (fun _ _ _ _ _ => le_op op_addM good_add nx_add (le_op op_addM good_add nx_add (le_var ((nmb_of (NN := nn_L_listed) (sc := (defScope st_L_listed)) (N := [("_law_key", 2, true), ("_law_one", 0, false)]) (G := ["_law_fraction_text"]) (by decide +kernel) rfl nm.nd rfl) _ _ _ _ _) 0) le_str) (le_call ((nmb_of (NN := nn_L_listed) (sc := (defScope st_L_listed)) (N := [("_law_key", 2, true), ("_law_one", 0, false)]) (G := ["_law_fraction_text"]) (by decide +kernel) rfl nm.nd rfl) _ _ _ _ _) 0 H_L_fraction_text (hr.mono (by decide)) takes0 (la_cons (le_ix hu1 (le_var ((nmb_of (NN := nn_L_listed) (sc := (defScope st_L_listed)) (N := [("_law_key", 2, true), ("_law_one", 0, false)]) (G := ["_law_fraction_text"]) (by decide +kernel) rfl nm.nd rfl) _ _ _ _ _) 1) (le_var ((nmb_of (NN := nn_L_listed) (sc := (defScope st_L_listed)) (N := [("_law_key", 2, true), ("_law_one", 0, false)]) (G := ["_law_fraction_text"]) (by decide +kernel) rfl nm.nd rfl) _ _ _ _ _) 0) (fun _ _ => rfl)) la_nil)))) (lss_cons (ls_if (lt_cmp (op_eqM hu64) good_eq nx_eq (le_b1 call_lenM good_len nx_len nm 1 B.len boot_len (le_var nm 1)) le_int (nomark _)) (lss_one (ls_ret le_str)) lss_nil) (lss_one (ls_ret (le_join le_str (le_var nm 1)))))
theorem ok_L_listed {P : Program} {w : World} {K : PySem.W.Frag} {mg : Str → Option Value} {base : Heap} {f : Addr} {fd : FuncData} {dvs : List V} (B : Bn mg) (C : Cs K w mg) (H_L_fraction_text : FnM P w K mg base 1 "_law_fraction_text" 1 MF.f_L_fraction_text_a4f65c) (F : FunD K "_law_listed" "_law_listed" (defArgs st_L_listed) (defBody st_L_listed) (defScope st_L_listed) dvs [] f fd) :
    FnOk P w K mg base (L2.CX P w) 2 f fd ["_law_one"] (spM K mg 1 MF.f_L_listed_7e5a9d) :=
  fn_ok F sc_L_listed rfl rfl fun cdv A outer s H E hr => lk_L_listed B C H_L_fraction_text hr
/-! ### _law_shared -/
def nn_L_shared : List Str := ["_law_one", "_law_other"]
theorem sc_L_shared : FnScope nn_L_shared ["_law_one", "_law_other"] (defScope st_L_shared) := ⟨rfl, rfl, rfl, by decide +kernel, rfl, by decide +kernel, by decide +kernel⟩
abbrev cx_L_shared (P : Program) (w : World) (K : PySem.W.Frag) (mg : Str → Option Value) (base : Heap) (f : Addr) (cdv : Value) (A : Around) (outer : List Env) (s : Shared) (H : Hp) (E : XK) : Cx := cxOf (L2.CX P w) P w K mg base nn_L_shared "_law_shared" (defScope st_L_shared) f cdv A outer s H E
theorem lk_L_shared {P : Program} {w : World} {K : PySem.W.Frag} {mg : Str → Option Value} {base : Heap} {f : Addr} {cdv : Value} {A : Around} {outer : List Env} {s : Shared} {H : Hp} {E : XK} (B : Bn mg) (C : Cs K w mg)  (hr : Room 0 (cx_L_shared P w K mg base f cdv A outer s H E).A) :
    LSs (cx_L_shared P w K mg base f cdv A outer s H E) (fun cls d _ H => E cls d H) none (defBody st_L_shared) MF.b_L_shared_8239fc := by
  have hu64 : (cx_L_shared P w K mg base f cdv A outer s H E).A.units + 64 < cLine := by have := hr.un; omega
  have hu1 : (cx_L_shared P w K mg base f cdv A outer s H E).A.units + 1 < cLine := by have := hr.un; omega
  have nm : Nm (cx_L_shared P w K mg base f cdv A outer s H E) [("_law_one", 0, true), ("_law_other", 1, true)] ["abs"] := nm_of (NN := nn_L_shared) (fnAll := true) (sc := defScope st_L_shared) (by decide +kernel) rfl sc_L_shared.nd rfl (fun _ _ => rfl)
  have tk : Takes (cx_L_shared P w K mg base f cdv A outer s H E) (fun cls d _ H => E cls d H) := tk_fn
  exact lss_cons (ls_par nm rfl 0 1 (by decide) (la_cons (le_b1 call_abs good_abs nx_abs nm 0 B.abs boot_abs (le_var nm 0)) (la_cons (le_b1 call_abs good_abs nx_abs nm 0 B.abs boot_abs (le_var nm 1)) la_nil))) (lss_cons (ls_while (passes_of rfl) (lt_cmp op_gt good_gt nx_gt (le_var nm 1) le_int (nomark _)) (lss_one (ls_par nm rfl 0 1 (by decide) (la_cons (le_var nm 1) (la_cons (le_op op_modN good_mod nx_mod (le_var nm 0) (le_var nm 1)) la_nil))))) (lss_one (ls_ret (le_var nm 0))))
theorem ok_L_shared {P : Program} {w : World} {K : PySem.W.Frag} {mg : Str → Option Value} {base : Heap} {f : Addr} {fd : FuncData} {dvs : List V} (B : Bn mg) (C : Cs K w mg)  (F : FunD K "_law_shared" "_law_shared" (defArgs st_L_shared) (defBody st_L_shared) (defScope st_L_shared) dvs [] f fd) :
    FnOk P w K mg base (L2.CX P w) 1 f fd ["_law_one", "_law_other"] (spM K mg 2 MF.f_L_shared_8239fc) :=
  fn_ok F sc_L_shared rfl rfl fun cdv A outer s H E hr => lk_L_shared B C  hr
/-! ### _law_frac -/
def nn_L_frac : List Str := ["_law_top", "_law_bottom", "_law_by"]
theorem sc_L_frac : FnScope nn_L_frac ["_law_top", "_law_bottom"] (defScope st_L_frac) := ⟨rfl, rfl, rfl, by decide +kernel, rfl, by decide +kernel, by decide +kernel⟩
abbrev cx_L_frac (P : Program) (w : World) (K : PySem.W.Frag) (mg : Str → Option Value) (base : Heap) (f : Addr) (cdv : Value) (A : Around) (outer : List Env) (s : Shared) (H : Hp) (E : XK) : Cx := cxOf (L2.CX P w) P w K mg base nn_L_frac "_law_frac" (defScope st_L_frac) f cdv A outer s H E
theorem lk_L_frac {P : Program} {w : World} {K : PySem.W.Frag} {mg : Str → Option Value} {base : Heap} {f : Addr} {cdv : Value} {A : Around} {outer : List Env} {s : Shared} {H : Hp} {E : XK} (B : Bn mg) (C : Cs K w mg) (H_L_shared : FnM P w K mg base 1 "_law_shared" 2 MF.f_L_shared_8239fc) (hr : Room 1 (cx_L_frac P w K mg base f cdv A outer s H E).A) :
    LSs (cx_L_frac P w K mg base f cdv A outer s H E) (fun cls d _ H => E cls d H) none (defBody st_L_frac) MF.b_L_frac_99180f := by
  have hu64 : (cx_L_frac P w K mg base f cdv A outer s H E).A.units + 64 < cLine := by have := hr.un; omega
  have hu1 : (cx_L_frac P w K mg base f cdv A outer s H E).A.units + 1 < cLine := by have := hr.un; omega
  have nm : Nm (cx_L_frac P w K mg base f cdv A outer s H E) [("_law_top", 0, true), ("_law_bottom", 1, true), ("_law_by", 2, true)] ["_law_shared"] := nm_of (NN := nn_L_frac) (fnAll := true) (sc := defScope st_L_frac) (by decide +kernel) rfl sc_L_frac.nd rfl (fun _ _ => rfl)
  have tk : Takes (cx_L_frac P w K mg base f cdv A outer s H E) (fun cls d _ H => E cls d H) := tk_fn
  exact lss_cons (ls_set nm 2 (le_call nm 0 H_L_shared (hr.mono (by decide)) tk (la_cons (le_var nm 0) (la_cons (le_var nm 1) la_nil)))) (lss_cons (ls_if (lt_cmp op_lt good_lt nx_lt (le_var nm 1) le_int (nomark _)) (lss_one (ls_set nm 2 (le_op op_sub good_sub nx_sub le_int (le_var nm 2)))) lss_nil) (lss_one (ls_ret (le_tup (la_cons (le_op op_fdivA good_div nx_div (le_var nm 0) (le_var nm 2)) (la_cons (le_op op_fdivA good_div nx_div (le_var nm 1) (le_var nm 2)) la_nil))))))
theorem ok_L_frac {P : Program} {w : World} {K : PySem.W.Frag} {mg : Str → Option Value} {base : Heap} {f : Addr} {fd : FuncData} {dvs : List V} (B : Bn mg) (C : Cs K w mg) (H_L_shared : FnM P w K mg base 1 "_law_shared" 2 MF.f_L_shared_8239fc) (F : FunD K "_law_frac" "_law_frac" (defArgs st_L_frac) (defBody st_L_frac) (defScope st_L_frac) dvs [] f fd) :
    FnOk P w K mg base (L2.CX P w) 2 f fd ["_law_top", "_law_bottom"] (spM K mg 2 MF.f_L_frac_99180f) :=
  fn_ok F sc_L_frac rfl rfl fun cdv A outer s H E hr => lk_L_frac B C H_L_shared hr
/-! ### _law_number -/
def nn_L_number : List Str := ["_law_state", "_law_way", "_law_small", "_law_great", "_law_under"]
theorem sc_L_number : FnScope nn_L_number ["_law_state"] (defScope st_L_number) := ⟨rfl, rfl, rfl, by decide +kernel, rfl, by decide +kernel, by decide +kernel⟩
abbrev cx_L_number (P : Program) (w : World) (K : PySem.W.Frag) (mg : Str → Option Value) (base : Heap) (f : Addr) (cdv : Value) (A : Around) (outer : List Env) (s : Shared) (H : Hp) (E : XK) : Cx := cxOf (L2.CX P w) P w K mg base nn_L_number "_law_number" (defScope st_L_number) f cdv A outer s H E
theorem lk_L_number {P : Program} {w : World} {K : PySem.W.Frag} {mg : Str → Option Value} {base : Heap} {f : Addr} {cdv : Value} {A : Around} {outer : List Env} {s : Shared} {H : Hp} {E : XK} (B : Bn mg) (C : Cs K w mg) (H_L_take : FnM P w K mg base 3 "_law_take" 2 MF.f_L_take_f2d2c3) (H_L_frac : FnM P w K mg base 2 "_law_frac" 2 MF.f_L_frac_99180f) (hr : Room 3 (cx_L_number P w K mg base f cdv A outer s H E).A) :
    LSs (cx_L_number P w K mg base f cdv A outer s H E) (fun cls d _ H => E cls d H) none (defBody st_L_number) MF.b_L_number_13ee60 := by
  have hu64 : (cx_L_number P w K mg base f cdv A outer s H E).A.units + 64 < cLine := by have := hr.un; omega
  have hu1 : (cx_L_number P w K mg base f cdv A outer s H E).A.units + 1 < cLine := by have := hr.un; omega
  have nm : Nm (cx_L_number P w K mg base f cdv A outer s H E) [("_law_state", 0, true), ("_law_way", 1, true), ("_law_small", 2, true), ("_law_great", 3, true), ("_law_under", 4, true)] ["_law_take", "_law_frac"] := nm_of (NN := nn_L_number) (fnAll := true) (sc := defScope st_L_number) (by decide +kernel) rfl sc_L_number.nd rfl (fun _ _ => rfl)
  have tk : Takes (cx_L_number P w K mg base f cdv A outer s H E) (fun cls d _ H => E cls d H) := tk_fn
  exact lss_cons (ls_set nm 1 (le_call nm 0 H_L_take (hr.mono (by decide)) tk (la_cons (le_var nm 0) (la_cons le_int la_nil)))) (lss_cons (ls_set nm 2 (le_op op_sub good_sub nx_sub (le_call nm 0 H_L_take (hr.mono (by decide)) tk (la_cons (le_var nm 0) (la_cons le_int la_nil))) le_int)) (lss_cons (ls_set nm 3 (le_op op_sub good_sub nx_sub (le_call nm 0 H_L_take (hr.mono (by decide)) tk (la_cons (le_var nm 0) (la_cons le_int la_nil))) le_int)) (lss_cons (ls_set nm 4 (le_op op_addM good_add nx_add le_int (le_call nm 0 H_L_take (hr.mono (by decide)) tk (la_cons (le_var nm 0) (la_cons le_int la_nil))))) (lss_cons (ls_if (lt_cmp (op_eqM hu64) good_eq nx_eq (le_var nm 1) le_int (nomark _)) (lss_one (ls_ret (le_tup (la_cons le_int (la_cons le_int la_nil))))) lss_nil) (lss_cons (ls_if (lt_cmp (op_eqM hu64) good_eq nx_eq (le_var nm 1) le_int (nomark _)) (lss_one (ls_ret (le_call nm 1 H_L_frac (hr.mono (by decide)) tk (la_cons (le_var nm 3) (la_cons (le_var nm 4) la_nil))))) lss_nil) (lss_cons (ls_if (lt_cmp (op_eqM hu64) good_eq nx_eq (le_var nm 1) le_int (nomark _)) (lss_one (ls_ret (le_call nm 1 H_L_frac (hr.mono (by decide)) tk (la_cons (le_var nm 2) (la_cons (le_op op_addM good_add nx_add le_int (le_op op_modN good_mod nx_mod (le_var nm 4) le_int)) la_nil))))) lss_nil) (lss_one (ls_ret (le_tup (la_cons (le_var nm 2) (la_cons le_int la_nil)))))))))))
theorem ok_L_number {P : Program} {w : World} {K : PySem.W.Frag} {mg : Str → Option Value} {base : Heap} {f : Addr} {fd : FuncData} {dvs : List V} (B : Bn mg) (C : Cs K w mg) (H_L_take : FnM P w K mg base 3 "_law_take" 2 MF.f_L_take_f2d2c3) (H_L_frac : FnM P w K mg base 2 "_law_frac" 2 MF.f_L_frac_99180f) (F : FunD K "_law_number" "_law_number" (defArgs st_L_number) (defBody st_L_number) (defScope st_L_number) dvs [] f fd) :
    FnOk P w K mg base (L2.CX P w) 4 f fd ["_law_state"] (spM K mg 1 MF.f_L_number_13ee60) :=
  fn_ok F sc_L_number rfl rfl fun cdv A outer s H E hr => lk_L_number B C H_L_take H_L_frac hr
/-! ### _law_far_number -/
def nn_L_far_number : List Str := ["_law_state", "_law_way", "_law_top", "_law_under"]
theorem sc_L_far_number : FnScope nn_L_far_number ["_law_state"] (defScope st_L_far_number) := ⟨rfl, rfl, rfl, by decide +kernel, rfl, by decide +kernel, by decide +kernel⟩
abbrev cx_L_far_number (P : Program) (w : World) (K : PySem.W.Frag) (mg : Str → Option Value) (base : Heap) (f : Addr) (cdv : Value) (A : Around) (outer : List Env) (s : Shared) (H : Hp) (E : XK) : Cx := cxOf (L2.CX P w) P w K mg base nn_L_far_number "_law_far_number" (defScope st_L_far_number) f cdv A outer s H E
theorem lk_L_far_number {P : Program} {w : World} {K : PySem.W.Frag} {mg : Str → Option Value} {base : Heap} {f : Addr} {cdv : Value} {A : Around} {outer : List Env} {s : Shared} {H : Hp} {E : XK} (B : Bn mg) (C : Cs K w mg) (H_L_take : FnM P w K mg base 3 "_law_take" 2 MF.f_L_take_f2d2c3) (H_L_frac : FnM P w K mg base 2 "_law_frac" 2 MF.f_L_frac_99180f) (hr : Room 3 (cx_L_far_number P w K mg base f cdv A outer s H E).A) :
    LSs (cx_L_far_number P w K mg base f cdv A outer s H E) (fun cls d _ H => E cls d H) none (defBody st_L_far_number) MF.b_L_far_number_c0f20a := by
  have hu64 : (cx_L_far_number P w K mg base f cdv A outer s H E).A.units + 64 < cLine := by have := hr.un; omega
  have hu1 : (cx_L_far_number P w K mg base f cdv A outer s H E).A.units + 1 < cLine := by have := hr.un; omega
  have nm : Nm (cx_L_far_number P w K mg base f cdv A outer s H E) [("_law_state", 0, true), ("_law_way", 1, true), ("_law_top", 2, true), ("_law_under", 3, true)] ["_law_take", "_law_frac"] := nm_of (NN := nn_L_far_number) (fnAll := true) (sc := defScope st_L_far_number) (by decide +kernel) rfl sc_L_far_number.nd rfl (fun _ _ => rfl)
  have tk : Takes (cx_L_far_number P w K mg base f cdv A outer s H E) (fun cls d _ H => E cls d H) := tk_fn
  exact lss_cons (ls_set nm 1 (le_call nm 0 H_L_take (hr.mono (by decide)) tk (la_cons (le_var nm 0) (la_cons le_int la_nil)))) (lss_cons (ls_set nm 2 (le_op op_addM good_add nx_add le_int (le_call nm 0 H_L_take (hr.mono (by decide)) tk (la_cons (le_var nm 0) (la_cons (le_ix hu1 (le_lst (la_cons le_int (la_cons le_int (la_cons le_int (la_cons le_int (la_cons (le_pow (by decide) (by decide)) la_nil)))))) (le_var nm 1) (fun _ _ => rfl)) la_nil))))) (lss_cons (ls_set nm 3 (le_op op_addM good_add nx_add le_int (le_call nm 0 H_L_take (hr.mono (by decide)) tk (la_cons (le_var nm 0) (la_cons (le_ix hu1 (le_lst (la_cons le_int (la_cons le_int (la_cons le_int (la_cons le_int (la_cons (le_pow (by decide) (by decide)) la_nil)))))) (le_var nm 1) (fun _ _ => rfl)) la_nil))))) (lss_one (ls_ret (le_call nm 1 H_L_frac (hr.mono (by decide)) tk (la_cons (le_op op_mulM good_mul nx_mul (le_var nm 2) (le_op op_sub good_sub nx_sub le_int (le_op op_mulM good_mul nx_mul le_int (le_call nm 0 H_L_take (hr.mono (by decide)) tk (la_cons (le_var nm 0) (la_cons le_int la_nil)))))) (la_cons (le_var nm 3) la_nil)))))))
theorem ok_L_far_number {P : Program} {w : World} {K : PySem.W.Frag} {mg : Str → Option Value} {base : Heap} {f : Addr} {fd : FuncData} {dvs : List V} (B : Bn mg) (C : Cs K w mg) (H_L_take : FnM P w K mg base 3 "_law_take" 2 MF.f_L_take_f2d2c3) (H_L_frac : FnM P w K mg base 2 "_law_frac" 2 MF.f_L_frac_99180f) (F : FunD K "_law_far_number" "_law_far_number" (defArgs st_L_far_number) (defBody st_L_far_number) (defScope st_L_far_number) dvs [] f fd) :
    FnOk P w K mg base (L2.CX P w) 4 f fd ["_law_state"] (spM K mg 1 MF.f_L_far_number_c0f20a) :=
  fn_ok F sc_L_far_number rfl rfl fun cdv A outer s H E hr => lk_L_far_number B C H_L_take H_L_frac hr
/-! ### law -/
def nn_law : List Str := ["_law_script", "_law_state", "_law_turn", "_law_point", "_law_shares", "_law_key", "_law_handed"]
theorem sc_law : FnScope nn_law ["_law_script"] (defScope st_law) := ⟨rfl, rfl, rfl, by decide +kernel, rfl, by decide +kernel, by decide +kernel⟩
abbrev cx_law (P : Program) (w : World) (K : PySem.W.Frag) (mg : Str → Option Value) (base : Heap) (f : Addr) (cdv : Value) (A : Around) (outer : List Env) (s : Shared) (H : Hp) (E : XK) : Cx := cxOf (L2.CX P w) P w K mg base nn_law "law" (defScope st_law) f cdv A outer s H E
theorem lk_law {P : Program} {w : World} {K : PySem.W.Frag} {mg : Str → Option Value} {base : Heap} {f : Addr} {cdv : Value} {A : Around} {outer : List Env} {s : Shared} {H : Hp} {E : XK} (B : Bn mg) (C : Cs K w mg) (H_L_fresh : FnM P w K mg base 1 "_law_fresh" 1 MF.f_L_fresh_5c16a1) (H_L_take : FnM P w K mg base 3 "_law_take" 2 MF.f_L_take_f2d2c3) (H_L_names : FnM P w K mg base 5 "_law_names" 2 MF.f_L_names_83ad55) (H_L_number : FnM P w K mg base 4 "_law_number" 1 MF.f_L_number_13ee60) (H_L_far_number : FnM P w K mg base 4 "_law_far_number" 1 MF.f_L_far_number_c0f20a) (H_point_text : FnM P w K mg base 2 "point_text" 1 MF.f_point_text_bda4de) (H_L_listed : FnM P w K mg base 2 "_law_listed" 1 MF.f_L_listed_7e5a9d) (H_shares_text : FnM P w K mg base 3 "shares_text" 1 MF.f_shares_text_e02e58) (hr : Room 5 (cx_law P w K mg base f cdv A outer s H E).A) :
    LSs (cx_law P w K mg base f cdv A outer s H E) (fun cls d _ H => E cls d H) none (defBody st_law) MF.b_law_f275d9 := by
  have hu64 : (cx_law P w K mg base f cdv A outer s H E).A.units + 64 < cLine := by have := hr.un; omega
  have hu1 : (cx_law P w K mg base f cdv A outer s H E).A.units + 1 < cLine := by have := hr.un; omega
  have nm : Nm (cx_law P w K mg base f cdv A outer s H E) [("_law_script", 0, true), ("_law_state", 1, true), ("_law_turn", 2, true), ("_law_point", 3, true), ("_law_shares", 4, true), ("_law_key", 5, true), ("_law_handed", 6, true)] ["_law_fresh", "range", "_law_names", "_law_take", "_law_number", "_law_far_number", "dict", "point_text", "_law_listed", "shares_text"] := nm_of (NN := nn_law) (fnAll := true) (sc := defScope st_law) (by decide +kernel) rfl sc_law.nd rfl (fun _ _ => rfl)
  have tk : Takes (cx_law P w K mg base f cdv A outer s H E) (fun cls d _ H => E cls d H) := tk_fn
  exact lss_cons (ls_set nm 1 (le_call nm 0 H_L_fresh (hr.mono (by decide)) tk (la_cons (le_var nm 0) la_nil))) (lss_cons (ls_for (passes_of rfl) rfl (li_range1 nm 1 B.range le_int) (lg_name nm 2) (lss_cons (ls_set nm 3 le_dct0) (lss_cons (ls_set nm 4 le_dct0) (lss_cons (ls_for (passes_of rfl) rfl (li_seq (le_call nm 2 H_L_names (hr.mono (by decide)) (takes_unl (takes_unl tk)) (la_cons (le_var nm 1) (la_cons (le_call nm 3 H_L_take (hr.mono (by decide)) (takes_unl (takes_unl tk)) (la_cons (le_var nm 1) (la_cons le_int la_nil))) la_nil)))) (lg_name nm 5) (lss_cons (ls_asg (le_ix hu1 (le_tup (la_cons (le_call nm 4 H_L_number (hr.mono (by decide)) (takes_unl (takes_unl tk)) (la_cons (le_var nm 1) la_nil)) (la_cons (le_call nm 5 H_L_far_number (hr.mono (by decide)) (takes_unl (takes_unl tk)) (la_cons (le_var nm 1) la_nil)) la_nil))) (le_call nm 3 H_L_take (hr.mono (by decide)) (takes_unl (takes_unl tk)) (la_cons (le_var nm 1) (la_cons le_int la_nil))) (fun _ _ => rfl)) (lg_sub hu1 (le_var nm 3) (le_var nm 5))) (lss_one (ls_if (lt_cmp (op_neM hu64) good_ne nx_ne (le_ix hu1 (le_ix hu1 (le_var nm 3) (le_var nm 5) (fun _ _ => rfl)) le_int (fun _ _ => rfl)) le_int (nomark _)) (lss_one (ls_asg (le_ix hu1 (le_var nm 3) (le_var nm 5) (fun _ _ => rfl)) (lg_sub hu1 (le_var nm 4) (le_var nm 5)))) lss_nil)))) (lss_cons (ls_set nm 6 (le_lst (la_cons (le_t1n (call_dictM rfl) good_dict nx_dict nm 6 B.dict boot_dict (le_var nm 3)) (la_cons (le_t1n (call_dictM rfl) good_dict nx_dict nm 6 B.dict boot_dict (le_var nm 4)) la_nil)))) (lss_cons (ls_if ((lw_or (lt_cmp (op_neM hu64) good_ne nx_ne (le_call nm 7 H_point_text (hr.mono (by decide)) (takes_unl tk) (la_cons (le_ix hu1 (le_var nm 6) le_int (fun _ _ => rfl)) la_nil)) (le_call nm 8 H_L_listed (hr.mono (by decide)) (takes_unl tk) (la_cons (le_var nm 3) la_nil)) (nomark _)) (lw_or1 (lt_cmp (op_neM hu64) good_ne nx_ne (le_call nm 9 H_shares_text (hr.mono (by decide)) (takes_unl tk) (la_cons (le_ix hu1 (le_var nm 6) le_int (fun _ _ => rfl)) la_nil)) (le_call nm 8 H_L_listed (hr.mono (by decide)) (takes_unl tk) (la_cons (le_var nm 4) la_nil)) (nomark _)))).pt) (lss_one (ls_ret le_bl)) lss_nil) (lss_one (ls_if ((lw_or (lt_cmp (op_neM hu64) good_ne nx_ne (le_var nm 6) (le_lst (la_cons (le_var nm 3) (la_cons (le_var nm 4) la_nil))) (nomark _)) (lw_or1 (lt_cmp (op_neM hu64) good_ne nx_ne (le_call nm 7 H_point_text (hr.mono (by decide)) (takes_unl tk) (la_cons (le_ix hu1 (le_var nm 6) le_int (fun _ _ => rfl)) la_nil)) (le_call nm 8 H_L_listed (hr.mono (by decide)) (takes_unl tk) (la_cons (le_var nm 3) la_nil)) (nomark _)))).pt) (lss_one (ls_ret le_bl)) lss_nil)))))))) (lss_one (ls_ret (le_and (le_cmp (op_eqM hu64) good_eq nx_eq (le_call nm 7 H_point_text (hr.mono (by decide)) tk (la_cons le_dct0 la_nil)) le_str (nomark _)) (le_one (le_cmp (op_eqM hu64) good_eq nx_eq (le_call nm 9 H_shares_text (hr.mono (by decide)) tk (la_cons le_dct0 la_nil)) le_str (nomark _)))))))
theorem ok_law {P : Program} {w : World} {K : PySem.W.Frag} {mg : Str → Option Value} {base : Heap} {f : Addr} {fd : FuncData} {dvs : List V} (B : Bn mg) (C : Cs K w mg) (H_L_fresh : FnM P w K mg base 1 "_law_fresh" 1 MF.f_L_fresh_5c16a1) (H_L_take : FnM P w K mg base 3 "_law_take" 2 MF.f_L_take_f2d2c3) (H_L_names : FnM P w K mg base 5 "_law_names" 2 MF.f_L_names_83ad55) (H_L_number : FnM P w K mg base 4 "_law_number" 1 MF.f_L_number_13ee60) (H_L_far_number : FnM P w K mg base 4 "_law_far_number" 1 MF.f_L_far_number_c0f20a) (H_point_text : FnM P w K mg base 2 "point_text" 1 MF.f_point_text_bda4de) (H_L_listed : FnM P w K mg base 2 "_law_listed" 1 MF.f_L_listed_7e5a9d) (H_shares_text : FnM P w K mg base 3 "shares_text" 1 MF.f_shares_text_e02e58) (F : FunD K "law" "law" (defArgs st_law) (defBody st_law) (defScope st_law) dvs [] f fd) :
    FnOk P w K mg base (L2.CX P w) 6 f fd ["_law_script"] (spM K mg 1 MF.f_law_f275d9) :=
  fn_ok F sc_law rfl rfl fun cdv A outer s H E hr => lk_law B C H_L_fresh H_L_take H_L_names H_L_number H_L_far_number H_point_text H_L_listed H_shares_text hr
end LK

namespace HD
open PySem PySem.Spec PyProof.Rows L2 ML LK

theorem facts {P : Program} {w : World} {K : PySem.W.Frag} {h : Heap} {mg : Str → Option Value} {f : Addr} (X : K.In h) (G : h.Ns mainGlobals mg) (hfa : mg ("law" : Str) = some (.ref f)) (c : He.SaysD fa fn K) (t : tst K = true) :
    ∃ fd : FuncData, (∀ (s : Shared) (v : Value), BindsTo s fd ⟨[v], []⟩ [("_law_script", v)]) ∧ ∀ base : Heap, K.In base → base.Ns mainGlobals mg → FnOk P w K mg base (L2.CX P w) 6 f fd ["_law_script"] (spM K mg 1 MF.f_law_f275d9) := by
  have B : Bn mg := ⟨trivial, He.free_ok X G (c.fact 16 (f := .free "abs") rfl), He.free_ok X G (c.fact 17 (f := .free "dict") rfl), He.free_ok X G (c.fact 18 (f := .free "enumerate") rfl), He.free_ok X G (c.fact 19 (f := .free "len") rfl), He.free_ok X G (c.fact 20 (f := .free "range") rfl), He.free_ok X G (c.fact 21 (f := .free "sorted") rfl), He.free_ok X G (c.fact 22 (f := .free "str") rfl)⟩
  have C : Cs K w mg := ⟨trivial⟩
  obtain ⟨fd_L_fresh, F_L_fresh⟩ := c.def_ 0 (d := d_L_fresh) rfl
  have g_L_fresh : mg "_law_fresh" = some (.ref (He.ga K "_law_fresh")) := He.glo_ok X G (c.fact 0 (f := .glo "_law_fresh") rfl)
  have b_L_fresh : Binds K fd_L_fresh ["_law_script"] [] := F_L_fresh.bindsN fun _ _ _ _ _ _ us hl => match us, hl with | [_], _ => rfl
  obtain ⟨fd_L_mixed, F_L_mixed⟩ := c.def_ 1 (d := d_L_mixed) rfl
  have g_L_mixed : mg "_law_mixed" = some (.ref (He.ga K "_law_mixed")) := He.glo_ok X G (c.fact 1 (f := .glo "_law_mixed") rfl)
  have b_L_mixed : Binds K fd_L_mixed ["_law_seed"] [] := F_L_mixed.bindsN fun _ _ _ _ _ _ us hl => match us, hl with | [_], _ => rfl
  obtain ⟨fd_L_fill, F_L_fill⟩ := c.def_ 2 (d := d_L_fill) rfl
  have g_L_fill : mg "_law_fill" = some (.ref (He.ga K "_law_fill")) := He.glo_ok X G (c.fact 2 (f := .glo "_law_fill") rfl)
  have b_L_fill : Binds K fd_L_fill ["_law_state"] [] := F_L_fill.bindsN fun _ _ _ _ _ _ us hl => match us, hl with | [_], _ => rfl
  obtain ⟨fd_L_take, F_L_take⟩ := c.def_ 3 (d := d_L_take) rfl
  have g_L_take : mg "_law_take" = some (.ref (He.ga K "_law_take")) := He.glo_ok X G (c.fact 3 (f := .glo "_law_take") rfl)
  have b_L_take : Binds K fd_L_take ["_law_state", "_law_many"] [] := F_L_take.bindsN fun _ _ _ _ _ _ us hl => match us, hl with | [_, _], _ => rfl
  obtain ⟨fd_L_some_name, F_L_some_name⟩ := c.def_ 4 (d := d_L_some_name) rfl
  have g_L_some_name : mg "_law_some_name" = some (.ref (He.ga K "_law_some_name")) := He.glo_ok X G (c.fact 4 (f := .glo "_law_some_name") rfl)
  have b_L_some_name : Binds K fd_L_some_name ["_law_state"] [] := F_L_some_name.bindsN fun _ _ _ _ _ _ us hl => match us, hl with | [_], _ => rfl
  obtain ⟨fd_L_names, F_L_names⟩ := c.def_ 5 (d := d_L_names) rfl
  have g_L_names : mg "_law_names" = some (.ref (He.ga K "_law_names")) := He.glo_ok X G (c.fact 5 (f := .glo "_law_names") rfl)
  have b_L_names : Binds K fd_L_names ["_law_state", "_law_many"] [] := F_L_names.bindsN fun _ _ _ _ _ _ us hl => match us, hl with | [_, _], _ => rfl
  obtain ⟨fd_fraction_text, F_fraction_text⟩ := c.def_ 6 (d := d_fraction_text) rfl
  have g_fraction_text : mg "fraction_text" = some (.ref (He.ga K "fraction_text")) := He.glo_ok X G (c.fact 6 (f := .glo "fraction_text") rfl)
  have b_fraction_text : Binds K fd_fraction_text ["number"] [] := F_fraction_text.bindsN fun _ _ _ _ _ _ us hl => match us, hl with | [_], _ => rfl
  obtain ⟨fd_point_text, F_point_text⟩ := c.def_ 7 (d := d_point_text) rfl
  have g_point_text : mg "point_text" = some (.ref (He.ga K "point_text")) := He.glo_ok X G (c.fact 7 (f := .glo "point_text") rfl)
  have b_point_text : Binds K fd_point_text ["point"] [] := F_point_text.bindsN fun _ _ _ _ _ _ us hl => match us, hl with | [_], _ => rfl
  obtain ⟨fd_shares_text, F_shares_text⟩ := c.def_ 8 (d := d_shares_text) rfl
  have g_shares_text : mg "shares_text" = some (.ref (He.ga K "shares_text")) := He.glo_ok X G (c.fact 8 (f := .glo "shares_text") rfl)
  have b_shares_text : Binds K fd_shares_text ["shares"] [] := F_shares_text.bindsN fun _ _ _ _ _ _ us hl => match us, hl with | [_], _ => rfl
  obtain ⟨fd_L_fraction_text, F_L_fraction_text⟩ := c.def_ 9 (d := d_L_fraction_text) rfl
  have g_L_fraction_text : mg "_law_fraction_text" = some (.ref (He.ga K "_law_fraction_text")) := He.glo_ok X G (c.fact 9 (f := .glo "_law_fraction_text") rfl)
  have b_L_fraction_text : Binds K fd_L_fraction_text ["_law_number_here"] [] := F_L_fraction_text.bindsN fun _ _ _ _ _ _ us hl => match us, hl with | [_], _ => rfl
  obtain ⟨fd_L_listed, F_L_listed⟩ := c.def_ 10 (d := d_L_listed) rfl
  have g_L_listed : mg "_law_listed" = some (.ref (He.ga K "_law_listed")) := He.glo_ok X G (c.fact 10 (f := .glo "_law_listed") rfl)
  have b_L_listed : Binds K fd_L_listed ["_law_one"] [] := F_L_listed.bindsN fun _ _ _ _ _ _ us hl => match us, hl with | [_], _ => rfl
  obtain ⟨fd_L_shared, F_L_shared⟩ := c.def_ 11 (d := d_L_shared) rfl
  have g_L_shared : mg "_law_shared" = some (.ref (He.ga K "_law_shared")) := He.glo_ok X G (c.fact 11 (f := .glo "_law_shared") rfl)
  have b_L_shared : Binds K fd_L_shared ["_law_one", "_law_other"] [] := F_L_shared.bindsN fun _ _ _ _ _ _ us hl => match us, hl with | [_, _], _ => rfl
  obtain ⟨fd_L_frac, F_L_frac⟩ := c.def_ 12 (d := d_L_frac) rfl
  have g_L_frac : mg "_law_frac" = some (.ref (He.ga K "_law_frac")) := He.glo_ok X G (c.fact 12 (f := .glo "_law_frac") rfl)
  have b_L_frac : Binds K fd_L_frac ["_law_top", "_law_bottom"] [] := F_L_frac.bindsN fun _ _ _ _ _ _ us hl => match us, hl with | [_, _], _ => rfl
  obtain ⟨fd_L_number, F_L_number⟩ := c.def_ 13 (d := d_L_number) rfl
  have g_L_number : mg "_law_number" = some (.ref (He.ga K "_law_number")) := He.glo_ok X G (c.fact 13 (f := .glo "_law_number") rfl)
  have b_L_number : Binds K fd_L_number ["_law_state"] [] := F_L_number.bindsN fun _ _ _ _ _ _ us hl => match us, hl with | [_], _ => rfl
  obtain ⟨fd_L_far_number, F_L_far_number⟩ := c.def_ 14 (d := d_L_far_number) rfl
  have g_L_far_number : mg "_law_far_number" = some (.ref (He.ga K "_law_far_number")) := He.glo_ok X G (c.fact 14 (f := .glo "_law_far_number") rfl)
  have b_L_far_number : Binds K fd_L_far_number ["_law_state"] [] := F_L_far_number.bindsN fun _ _ _ _ _ _ us hl => match us, hl with | [_], _ => rfl
  obtain ⟨fd_law, F_law⟩ := c.def_ 15 (d := d_law) rfl
  have g_law : mg "law" = some (.ref (He.ga K "law")) := He.glo_ok X G (c.fact 15 (f := .glo "law") rfl)
  have b_law : Binds K fd_law ["_law_script"] [] := F_law.bindsN fun _ _ _ _ _ _ us hl => match us, hl with | [_], _ => rfl
  have e0 := hfa.symm.trans g_law
  cases e0
  have b := FunD.bindsA (ps := ["_law_script"]) F_law fun _ _ _ _ _ _ us hl => match us, hl with | [_], _ => rfl
  refine ⟨fd_law, fun s v => b s [v] rfl, fun base _ _ => ?_⟩
  have H_L_fresh : FnM P w K mg base 1 "_law_fresh" 1 MF.f_L_fresh_5c16a1 := ⟨_, fd_L_fresh, _, g_L_fresh, LK.ok_L_fresh B C  F_L_fresh, F_L_fresh.kp, b_L_fresh⟩
  have H_L_mixed : FnM P w K mg base 1 "_law_mixed" 1 MF.f_L_mixed_8bea50 := ⟨_, fd_L_mixed, _, g_L_mixed, LK.ok_L_mixed B C  F_L_mixed, F_L_mixed.kp, b_L_mixed⟩
  have H_L_fill : FnM P w K mg base 2 "_law_fill" 1 MF.f_L_fill_107c3d := ⟨_, fd_L_fill, _, g_L_fill, LK.ok_L_fill B C H_L_mixed F_L_fill, F_L_fill.kp, b_L_fill⟩
  have H_L_take : FnM P w K mg base 3 "_law_take" 2 MF.f_L_take_f2d2c3 := ⟨_, fd_L_take, _, g_L_take, LK.ok_L_take B C H_L_fill F_L_take, F_L_take.kp, b_L_take⟩
  have H_L_some_name : FnM P w K mg base 4 "_law_some_name" 1 MF.f_L_some_name_bb4a29 := ⟨_, fd_L_some_name, _, g_L_some_name, LK.ok_L_some_name B C H_L_take F_L_some_name, F_L_some_name.kp, b_L_some_name⟩
  have H_L_names : FnM P w K mg base 5 "_law_names" 2 MF.f_L_names_83ad55 := ⟨_, fd_L_names, _, g_L_names, LK.ok_L_names B C H_L_some_name F_L_names, F_L_names.kp, b_L_names⟩
  have H_fraction_text : FnM P w K mg base 1 "fraction_text" 1 MF.f_fraction_text_b06341 := ⟨_, fd_fraction_text, _, g_fraction_text, LK.ok_fraction_text B C  F_fraction_text, F_fraction_text.kp, b_fraction_text⟩
  have H_point_text : FnM P w K mg base 2 "point_text" 1 MF.f_point_text_bda4de := ⟨_, fd_point_text, _, g_point_text, LK.ok_point_text B C H_fraction_text F_point_text, F_point_text.kp, b_point_text⟩
  have H_shares_text : FnM P w K mg base 3 "shares_text" 1 MF.f_shares_text_e02e58 := ⟨_, fd_shares_text, _, g_shares_text, LK.ok_shares_text B C H_point_text F_shares_text, F_shares_text.kp, b_shares_text⟩
  have H_L_fraction_text : FnM P w K mg base 1 "_law_fraction_text" 1 MF.f_L_fraction_text_a4f65c := ⟨_, fd_L_fraction_text, _, g_L_fraction_text, LK.ok_L_fraction_text B C  F_L_fraction_text, F_L_fraction_text.kp, b_L_fraction_text⟩
  have H_L_listed : FnM P w K mg base 2 "_law_listed" 1 MF.f_L_listed_7e5a9d := ⟨_, fd_L_listed, _, g_L_listed, LK.ok_L_listed B C H_L_fraction_text F_L_listed, F_L_listed.kp, b_L_listed⟩
  have H_L_shared : FnM P w K mg base 1 "_law_shared" 2 MF.f_L_shared_8239fc := ⟨_, fd_L_shared, _, g_L_shared, LK.ok_L_shared B C  F_L_shared, F_L_shared.kp, b_L_shared⟩
  have H_L_frac : FnM P w K mg base 2 "_law_frac" 2 MF.f_L_frac_99180f := ⟨_, fd_L_frac, _, g_L_frac, LK.ok_L_frac B C H_L_shared F_L_frac, F_L_frac.kp, b_L_frac⟩
  have H_L_number : FnM P w K mg base 4 "_law_number" 1 MF.f_L_number_13ee60 := ⟨_, fd_L_number, _, g_L_number, LK.ok_L_number B C H_L_take H_L_frac F_L_number, F_L_number.kp, b_L_number⟩
  have H_L_far_number : FnM P w K mg base 4 "_law_far_number" 1 MF.f_L_far_number_c0f20a := ⟨_, fd_L_far_number, _, g_L_far_number, LK.ok_L_far_number B C H_L_take H_L_frac F_L_far_number, F_L_far_number.kp, b_L_far_number⟩
  exact LK.ok_law B C H_L_fresh H_L_take H_L_names H_L_number H_L_far_number H_point_text H_L_listed H_shares_text F_law
end HD

open PySem PySem.W PySem.Calls PyProof.Rows
theorem law_holds_of (law_m : ML.LawM 63 MF.f_law_f275d9) : PySem.Challenge.rw_scopestore_k84_points_as_texts.Holds := by
  w_on; o_law
  refine HandSHeadRun.head_any (r := OpenLaw.row PySem.Challenge.rw_scopestore_k84_points_as_texts) (q := view (OpenLaw.row PySem.Challenge.rw_scopestore_k84_points_as_texts).prog [17]) (H := HD.hk) (ob := HD.ob) (M := 20000) (loose := HD.names) (d := HandSHeadRun.topDef (OpenLaw.row PySem.Challenge.rw_scopestore_k84_points_as_texts).prog 17) (kwd := []) HD.ob_eq
    (by kernel_rfl) (fun s => by kernel_rfl) HD.run (by kernel_rfl) (by kernel_rfl) (by kernel_rfl) (by rfl) (by first | assumption | decide +kernel) (by decide +kernel) ⟨rfl, rfl, rfl, rfl, rfl, by decide +kernel⟩ ?hw ?hc
  case hw => w_witness2
  case hc =>
    refine ML.walk_m (l := PySem.Challenge.rw_scopestore_k84_points_as_texts) (n := 63) (k := 6) (x := "_law_script") (f := MF.f_law_f275d9) rfl (by decide) (by kernel_rfl) ⟨rfl, by decide, by decide⟩ law_m ?F (fun _ _ _ _ _ h => let ⟨_, _, _, _, _, _, _, _, _, _, _, _, z⟩ := h; z)
    intro w mg fa h Y G hmg0
    obtain ⟨K, KX, c, t⟩ := Y
    have hmg : mg ("law" : PySem.Str) = some (.ref fa) := by
      have e : (HandSHeadRun.topDef (OpenLaw.row PySem.Challenge.rw_scopestore_k84_points_as_texts).prog 17).name = ("law" : PySem.Str) := by kernel_rfl
      rw [← e]
      exact hmg0
    obtain ⟨fd, hb, hF⟩ := HD.facts (P := (PySem.Challenge.rw_scopestore_k84_points_as_texts).prog) (w := w) KX G hmg c t
    exact ⟨K, fd, KX, hb, hF⟩

theorem PySem.Challenge.cw_scopestore_k84_points_as_texts_holds : PySem.Challenge.rw_scopestore_k84_points_as_texts.Holds :=
  law_holds_of (fun ns o hl _ ho => Sp.law_k84 ns o hl ho)
