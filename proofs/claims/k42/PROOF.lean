import PyProof.Rows.All
import Wide.All
import OpenK.AllK
import Wide.FinOn
import HandS.ForMost
import HandS.ForExc
import HandS.Zip
import HandS.TupMul
import HandS.IsInst
import HandS.Defaults
import HandS.MakeKwOnly
import HandS.TupAny
import HandS.Style
import KE.GoesMore
import HandS.ExcCtx
import HandS.HotCalls
import HandS.ExcIs
import HandS.TupSets
import HandS.SortRule
import HandS.SortInts
import HandS.Conv
import HandS.SortKw
import PySem.Challenge.RW_halfturn_k42_upright_slopes_and_brackets
set_option Elab.async false
set_option linter.all false
set_option maxRecDepth 100000
set_option maxHeartbeats 0
/-! Values as data, a small clean syntax, and what it evaluates to. -/
namespace Rv
open PySem L2
/-- data -/
inductive D where
  | non | bl (b : Bool) | int (i : Int) | str (s : Str) | lst (l : List D) | tup (l : List D) | dK (l : List (Key × D)) | dT (l : List (List Key × D)) | exc (c : Nat)
/-- an outcome: a value, an exception of a class (by number), or nothing known -/
inductive R (α : Type) where
  | ok (a : α) | exc (c : Nat) | stk
namespace R
def bind {α β : Type} : R α → (α → R β) → R β
  | .ok a, f => f a
  | .exc c, _ => .exc c
  | .stk, _ => .stk
/-- no exception -/
def nox {α : Type} : R α → R α
  | .ok a => .ok a
  | _ => .stk
end R
@[simp] theorem R.bind_ok {α β : Type} (a : α) (f : α → R β) : (R.ok a).bind f = f a := rfl
@[simp] theorem R.bind_exc {α β : Type} (c : Nat) (f : α → R β) : (R.exc c).bind f = .exc c := rfl
@[simp] theorem R.bind_stk {α β : Type} (f : α → R β) : (R.stk : R α).bind f = .stk := rfl
@[simp] theorem R.nox_ok {α : Type} (a : α) : (R.ok a).nox = .ok a := rfl
/-- sizes: lists and texts; factors; divisors -/
def LL : Nat := 100000
def mulOk (i j : Int) : Prop := (i.natAbs < 2 ^ 63 ∨ j.natAbs < 2 ^ 63) ∨ (i.natAbs.log2 < 40000000 ∧ j.natAbs.log2 < 40000000)
noncomputable instance (i j : Int) : Decidable (mulOk i j) := Classical.propDecidable _
def divOk (j : Int) : Prop := j ≠ 0 ∧ j.natAbs.log2 < 9000
noncomputable instance (j : Int) : Decidable (divOk j) := Classical.propDecidable _
def powOk (i j : Int) : Prop := 0 ≤ j ∧ j ≤ 1000 ∧ i.natAbs < 2 ^ 64
noncomputable instance (i j : Int) : Decidable (powOk i j) := Classical.propDecidable _
def rngOk (i : Int) : Prop := -(2 ^ 62) ≤ i ∧ i < 2 ^ 62
noncomputable instance (i : Int) : Decidable (rngOk i) := Classical.propDecidable _
inductive Bo | add | sub | mul | fdv | mod | pow
  deriving DecidableEq
inductive Co | eq | ne | lt | le | gt | ge | isn | ntn
  deriving DecidableEq
inductive Bf | len | abs | int | min2 | max2 | sum | all | any | tuple | list | repr | min1 | max1 | sorted
  deriving DecidableEq
inductive Ty | int | bool | str | tuple | list
  deriving DecidableEq
/-! ### == of data -/
mutual
def D.py : D → PyData
  | .non => .none
  | .bl b => .bool b
  | .int i => .int i
  | .str s => .str s
  | .lst l => .list (pys l)
  | .tup l => .tuple (pys l)
  | .dK _ => .dict []
  | .dT _ => .dict []
  | .exc _ => .dict []
def pys : List D → List PyData
  | [] => []
  | d :: l => D.py d :: pys l
end
/-- data that == reads, so deep at most -/
def eqOk : Nat → D → Bool
  | _, .non => true
  | _, .bl _ => true
  | _, .int _ => true
  | _, .str s => PyData.strOk s
  | n + 1, .lst l => l.all (eqOk n)
  | n + 1, .tup l => l.all (eqOk n)
  | _, _ => false
/-- Python's == -/
def dEq (a b : D) : Bool := PyData.eqv a.py b.py
/-! ### syntax -/
mutual
inductive Tg where
  | var (i : Nat) | tup (ts : Tgs)
inductive Tgs where
  | nil | cons (t : Tg) (ts : Tgs)
end
mutual
inductive Ex where
  | var (i : Nat) | glb (g : Nat) | non | bl (b : Bool) | int (i : Int) | str (s : Str)
  | bin (o : Bo) (a b : Ex) | neg (a : Ex) | cmp (o : Co) (a b : Ex) | cmp2 (o o' : Co) (a b c : Ex)
  | and (a b : Ex) | or (a b : Ex) | not (a : Ex) | ite (c a b : Ex)
  | tup (es : Exs) | lst (es : Exs) | idx (a i : Ex) | slc (a : Ex) (lo hi : Eo) | slcS (a : Ex) (st : Eo)
  | call (f : Nat) (es : Exs) | callD (f : Nat) (es : Exs) (d : Int) | callK (f : Nat) (es : Exs) (e : Ex) | bfn (b : Bf) (es : Exs) | isi (a : Ex) (ts : List Ty)
  | comp (e : Ex) (t : Tg) (s : Src) (c : Eo) (ws : List Nat)
  | dix (i : Nat) (k : Ex) | dgt (i : Nat) (k d : Ex) | dso (i : Nat) | sset (a : Ex) | maxd (a d : Ex) | inn (n : Bool) (a b : Ex)
inductive Exs where
  | nil | cons (e : Ex) (es : Exs)
inductive Eo where
  | no | yes (e : Ex)
inductive Src where
  | it (e : Ex) | rng (es : Exs) | enm (e : Ex) | zip (a b : Ex)
end
/-! ### evaluation -/
def ofInt : R D → (Int → R D) → R D
  | .ok (.int i), f => f i
  | .ok _, _ => .stk
  | .exc c, _ => .exc c
  | .stk, _ => .stk
def dRep (l : List D) (k : Nat) : List D := (List.replicate k l).flatten
noncomputable def bin : Bo → D → D → R D
  | .add, .int i, .int j => .ok (.int (i + j))
  | .add, .lst a, .lst b => if a.length + b.length ≤ LL then .ok (.lst (a ++ b)) else .stk
  | .add, .tup a, .tup b => if a.length + b.length ≤ LL then .ok (.tup (a ++ b)) else .stk
  | .add, .str a, .str b => if a.length + b.length ≤ LL then .ok (.str (a ++ b)) else .stk
  | .sub, .int i, .int j => .ok (.int (i - j))
  | .mul, .int i, .int j => if mulOk i j then .ok (.int (i * j)) else .stk
  | .mul, .lst l, .int k => if l.length * k.toNat ≤ LL ∧ rngOk k then .ok (.lst (dRep l k.toNat)) else .stk
  | .mul, .tup l, .int k => if (0 < l.length ∧ l.length ≤ 1000) ∧ k ≤ 1000 ∧ rngOk k then .ok (.tup (dRep l k.toNat)) else .stk
  | .fdv, .int i, .int j => if divOk j then .ok (.int (i.fdiv j)) else .stk
  | .mod, .int i, .int j => if j ≠ 0 then .ok (.int (i.fmod j)) else .stk
  | .pow, .int i, .int j => if powOk i j then .ok (.int (i ^ j.toNat)) else .stk
  | _, _, _ => .stk
def intsOf : List D → Option (List Int)
  | [] => some []
  | .int i :: l => (intsOf l).map (i :: ·)
  | _ :: _ => none
/-- the order of tuples of ints -/
def lexI : List Int → List Int → Bool
  | a :: r, b :: s => if a = b then lexI r s else decide (a < b)
  | [], _ :: _ => true
  | _, [] => false
def cmpV : Co → D → D → R Bool
  | .eq, a, b => if eqOk 12 a && eqOk 12 b then .ok (dEq a b) else .stk
  | .ne, a, b => if eqOk 12 a && eqOk 12 b then .ok (!dEq a b) else .stk
  | .lt, .int i, .int j => .ok (decide (i < j))
  | .lt, .tup a, .tup b => match intsOf a, intsOf b with | some x, some y => if x.length = y.length then .ok (lexI x y) else .stk | _, _ => .stk
  | .le, .int i, .int j => .ok (decide (i ≤ j))
  | .gt, .int i, .int j => .ok (decide (j < i))
  | .ge, .int i, .int j => .ok (decide (j ≤ i))
  | .isn, .non, .non => .ok true
  | .isn, .int _, .non | .isn, .bl _, .non | .isn, .str _, .non | .isn, .tup _, .non | .isn, .lst _, .non => .ok false
  | .ntn, .non, .non => .ok false
  | .ntn, .int _, .non | .ntn, .bl _, .non | .ntn, .str _, .non | .ntn, .tup _, .non | .ntn, .lst _, .non => .ok true
  | _, _, _ => .stk
def ixD (l : List D) (i : Int) : R D := match atI l i with | some d => .ok d | none => .stk
def idxV : D → D → R D
  | .lst l, .int i => ixD l i
  | .tup l, .int i => ixD l i
  | _, _ => .stk
def cutD (xs : List D) (lo hi : Option Int) : List D := (xs.drop (HT.sIx xs.length 0 lo)).take (HT.sIx xs.length xs.length hi - HT.sIx xs.length 0 lo)
def slcV : D → Option Int → Option Int → R D
  | .lst l, lo, hi => .ok (.lst (cutD l lo hi))
  | .tup l, lo, hi => .ok (.tup (cutD l lo hi))
  | _, _, _ => .stk
/-- the places of xs[::c]: a tuple's, a list's -/
def stT {α : Type} (l : List α) (c : Int) : List α := (List.range (Builtin.Slice.slicePlaces (if c < 0 then (l.length : Int) - 1 else 0) (if c < 0 then -1 else (l.length : Int)) c)).filterMap fun (k : Nat) => l[((if c < 0 then (l.length : Int) - 1 else 0) + (k : Int) * c).toNat]?
def stL {α : Type} (l : List α) (c : Int) : List α := (sliceRange (sliceBounds none none (some c) l.length).1 (sliceBounds none none (some c) l.length).2.1 (sliceBounds none none (some c) l.length).2.2).filterMap fun i => l[i]?
def slcSV : D → Option Int → R D
  | .lst l, some c => if c ≠ 0 then .ok (.lst (stL l c)) else .stk
  | .tup l, some c => if c ≠ 0 then .ok (.tup (stT l c)) else .stk
  | _, _ => .stk
def tyIs : Ty → D → R Bool
  | .int, .int _ | .int, .bl _ | .bool, .bl _ | .str, .str _ | .tuple, .tup _ | .list, .lst _ => .ok true
  | _, .exc _ | _, .dK _ | _, .dT _ => .stk
  | _, _ => .ok false
def anyTy : List Ty → D → R Bool
  | [], _ => .ok false
  | t :: ts, d => (tyIs t d).bind fun b => if b then .ok true else anyTy ts d
def blsOf : List D → Option (List Bool)
  | [] => some []
  | .bl i :: l => (blsOf l).map (i :: ·)
  | _ :: _ => none
/-- lists of tuples of ints, all as long -/
def tupsOf : List D → Option (List (List Int))
  | [] => some []
  | .tup l :: r => match intsOf l with | some x => (tupsOf r).map (x :: ·) | none => none
  | _ :: _ => none
def insL (x : List Int) : List (List Int) → List (List Int)
  | [] => [x]
  | y :: r => if lexI y x then y :: insL x r else x :: y :: r
def srtL : List (List Int) → List (List Int)
  | [] => []
  | x :: r => insL x (srtL r)
/-- without those that were there before -/
def once : List (List Int) → List (List Int)
  | [] => []
  | x :: r => if (once r).contains x then once r else x :: once r
def insI (x : Int) : List Int → List Int
  | [] => [x]
  | y :: r => if y < x then y :: insI x r else x :: y :: r
def srtI : List Int → List Int
  | [] => []
  | x :: r => insI x (srtI r)
def sameLen : List (List Int) → Bool
  | [] => true
  | x :: r => 0 < x.length && r.all (fun y => y.length == x.length)
def tupD (l : List Int) : D := .tup (l.map .int)
def srtT (l : List D) : R D := match tupsOf l with | some ns => if sameLen ns then .ok (.lst ((srtL ns).map tupD)) else .stk | none => .stk
def setT1 (l : List D) : R D := match tupsOf l with | some ns => if sameLen ns && ns.all (fun x => x.all fun i => decide (0 ≤ i)) && decide (ns.length < 64) then .ok (.lst ((srtL (once ns)).map tupD)) else .stk | none => .stk
/-- the first least, the first greatest -/
def leastI : Int → List Int → Int
  | m, [] => m
  | m, i :: r => leastI (if i < m then i else m) r
def mostI : Int → List Int → Int
  | m, [] => m
  | m, i :: r => mostI (if i > m then i else m) r
def minL (l : List D) : R D := match intsOf l with | some (i :: r) => .ok (.int (leastI i r)) | _ => .stk
def maxL (l : List D) : R D := match intsOf l with | some (i :: r) => .ok (.int (mostI i r)) | _ => .stk
/-- a name: nothing known, a value, a list or dict of the frame's own that nothing else knows, one that a loop walks -/
inductive Sl where
  | un | sh (d : D) | own (d : D) | lk
abbrev Env := List Sl
/-! dicts: by their keys -/
section
variable {κ α : Type} [DecidableEq κ]
def lkA (l : List (κ × α)) (k : κ) : Option α := (l.find? fun p => decide (p.1 = k)).map (·.2)
def putA (l : List (κ × α)) (k : κ) (v : α) : List (κ × α) := if l.any (fun p => decide (p.1 = k)) then l.map fun p => if p.1 = k then (p.1, v) else p else l ++ [(k, v)]
end
def keyD : D → Option Key
  | .int i => some (.inl i)
  | .str s => some (.inr s)
  | _ => none
def keysD : List D → Option (List Key)
  | [] => some []
  | d :: r => match keyD d with | some k => (keysD r).map (k :: ·) | none => none
/-- tuples that may stand in the module's text -/
def fixB (l : List D) : Bool := l.length == 2 || l.any fun d => match d with | .str _ => true | _ => false
def getT (t k : D) : R (Option D) := match t, k with
  | .dK l, k => match keyD k with | some x => .ok (lkA l x) | none => .stk
  | .dT l, .tup ks => if fixB ks then .stk else match keysD ks with | some x => .ok (lkA l x) | none => .stk
  | _, _ => .stk
def putT (t k v : D) : R D := match t, k with
  | .dK l, k => match keyD k with | some x => if l.length < LL then .ok (.dK (putA l x v)) else .stk | none => .stk
  | .dT l, .tup ks => if fixB ks then .stk else match keysD ks with | some x => if l.length < LL then .ok (.dT (putA l x v)) else .stk | none => .stk
  | _, _ => .stk
def dV (ρ : Env) (i : Nat) : R D := match ρ[i]? with | some (.own (.dK l)) => .ok (.dK l) | some (.own (.dT l)) => .ok (.dT l) | some (.sh (.dK l)) => .ok (.dK l) | some (.sh (.dT l)) => .ok (.dT l) | _ => .stk
def dO (ρ : Env) (i : Nat) : R D := match ρ[i]? with | some (.own (.dK l)) => .ok (.dK l) | some (.own (.dT l)) => .ok (.dT l) | _ => .stk
def intKs : List (Key × D) → Option (List Int)
  | [] => some []
  | (.inl i, _) :: r => (intKs r).map (i :: ·)
  | _ :: _ => none
def intK : List Key → Option (List Int)
  | [] => some []
  | .inl i :: r => (intK r).map (i :: ·)
  | _ :: _ => none
def tupKs : List (List Key × D) → Option (List (List Int))
  | [] => some []
  | (k, _) :: r => match intK k with | some x => (tupKs r).map (x :: ·) | none => none
def srtD : D → R D
  | .dK l => match intKs l with | some ns => if ns.length < 64 then .ok (.lst ((srtI ns).map .int)) else .stk | none => .stk
  | .dT l => match tupKs l with | some ns => if sameLen ns then .ok (.lst ((srtL ns).map tupD)) else .stk | none => .stk
  | _ => .stk
/-- x in a list or tuple -/
def inV (a b : D) : R Bool := match b with
  | .lst l => if eqOk 12 a && eqOk 12 (.lst l) then .ok (l.any fun y => dEq y a) else .stk
  | .tup l => if eqOk 12 a && eqOk 12 (.tup l) then .ok (l.any fun y => dEq y a) else .stk
  | _ => .stk
def reprB (b : Bool) : Str := if b then "True" else "False"
def bfn : Bf → List D → R D
  | .len, [.lst l] => .ok (.int l.length)
  | .len, [.tup l] => .ok (.int l.length)
  | .abs, [.int i] => .ok (.int (if i < 0 then -i else i))
  | .int, [.int i] => .ok (.int i)
  | .int, [.bl b] => .ok (.int (if b then 1 else 0))
  | .min2, [.int i, .int j] => .ok (.int (if j < i then j else i))
  | .max2, [.int i, .int j] => .ok (.int (if j > i then j else i))
  | .sum, [.lst l] | .sum, [.tup l] => match intsOf l with | some ns => .ok (.int ns.sum) | none => .stk
  | .all, [.lst l] => match blsOf l with | some bs => .ok (.bl (bs.all id)) | none => .stk
  | .any, [.lst l] => match blsOf l with | some bs => .ok (.bl (bs.any id)) | none => .stk
  | .tuple, [.lst l] => .ok (.tup l)
  | .tuple, [.tup l] => .ok (.tup l)
  | .list, [.lst l] => .ok (.lst l)
  | .list, [.tup l] => .ok (.lst l)
  | .repr, [.bl b] => .ok (.str (reprB b))
  | .min1, [.lst l] | .min1, [.tup l] => minL l
  | .max1, [.lst l] => maxL l
  | .sorted, [.lst l] => srtT l
  | _, _ => .stk
def itemsV : D → R (List D)
  | .lst l => .ok l
  | .tup l => .ok l
  | _ => .stk
def rngL (lo : Int) (n : Nat) : List D := (List.range n).map fun i => .int (lo + (i : Nat))
def enmL (l : List D) : List D := (List.range l.length).zip l |>.map fun p => .tup [.int (p.1 : Nat), p.2]
def zipL (a b : List D) : List D := (a.zip b).map fun p => .tup [p.1, p.2]
def rngC (lo c : Int) (n : Nat) : List D := (List.range n).map fun i => .int (lo + (i : Nat) * c)
def rng3Ok (i j c : Int) : Prop := RgC i j c (Builtin.Range.rangeSize i j c).toNat
noncomputable instance (i j c : Int) : Decidable (rng3Ok i j c) := Classical.propDecidable _
noncomputable def rngV : List D → R (List D)
  | [.int j] => if rngOk j then .ok (rngL 0 j.toNat) else .stk
  | [.int i, .int j] => if rngOk i ∧ rngOk j then .ok (rngL i (j - i).toNat) else .stk
  | [.int i, .int j, .int c] => if rng3Ok i j c then .ok (rngC i c (Builtin.Range.rangeSize i j c).toNat) else .stk
  | _ => .stk
def enmV : D → R (List D)
  | .lst l => .ok (enmL l)
  | .tup l => .ok (enmL l)
  | _ => .stk
def zipV : D → D → R (List D)
  | .lst l, .lst r => .ok (zipL l r)
  | .tup l, .tup r => .ok (zipL l r)
  | _, _ => .stk
def truB : R D → R Bool
  | .ok (.bl b) => .ok b
  | .ok _ => .stk
  | .exc c => .exc c
  | .stk => .stk
def ofB : R Bool → R D
  | .ok b => .ok (.bl b)
  | .exc c => .exc c
  | .stk => .stk
@[simp] theorem truB_ok (b : Bool) : truB (.ok (.bl b)) = .ok b := rfl
@[simp] theorem ofB_ok (b : Bool) : ofB (.ok b) = .ok (.bl b) := rfl
/-- a store; a name that a loop walks is not stored -/
def stE (ρ : Env) (i : Nat) (s : Sl) : R Env := match ρ[i]? with
  | some .lk => .stk
  | some _ => .ok (ρ.set i s)
  | none => .stk
mutual
def setT : Tg → D → Env → R Env
  | .var i, d, ρ => stE ρ i (.sh d)
  | .tup ts, .tup ds, ρ => setTs ts ds ρ
  | .tup ts, .lst ds, ρ => setTs ts ds ρ
  | .tup _, _, _ => .stk
def setTs : Tgs → List D → Env → R Env
  | .nil, [], ρ => .ok ρ
  | .cons t ts, d :: ds, ρ => (setT t d ρ).bind fun ρ' => setTs ts ds ρ'
  | _, _, _ => .stk
end
def wipeE (ρ : Env) : List Nat → Env
  | [] => ρ
  | v :: vs => (wipeE ρ vs).set v .un
/-- a comprehension over items -/
def compL (st : D → R Env) (c : Env → R Bool) (f : Env → R D) : List D → R (List D)
  | [] => .ok []
  | x :: r => (st x).bind fun ρ => (c ρ).bind fun b => if b then (f ρ).bind fun y => (compL st c f r).bind fun ys => .ok (y :: ys) else compL st c f r
section
variable (Φ : Nat → List D → R D) (C : Nat → D)
mutual
/-- x: the value is only looked into, so an own list may be read -/
noncomputable def ev (ρ : Env) (x : Bool) : Ex → R D
  | .var i => match ρ[i]? with | some (.sh d) => .ok d | some (.own (.lst l)) => if x then .ok (.lst l) else .stk | _ => .stk
  | .glb g => .ok (C g)
  | .non => .ok .non
  | .bl b => .ok (.bl b)
  | .int i => .ok (.int i)
  | .str s => .ok (.str s)
  | .bin o a b => (ev ρ true a).bind fun x => (ev ρ true b).bind fun y => bin o x y
  | .neg a => ofInt (ev ρ false a) fun i => .ok (.int (-i))
  | .cmp o a b => (ev ρ true a).bind fun x => (ev ρ true b).bind fun y => ofB (cmpV o x y)
  | .cmp2 o o' a b c => (ev ρ false a).bind fun x => (ev ρ false b).bind fun y => (cmpV o x y).bind fun k => if k then (ev ρ false c).bind fun z => ofB (cmpV o' y z) else .ok (.bl false)
  | .and a b => (truB (ev ρ false a)).bind fun k => if k then ofB (truB (ev ρ false b)) else .ok (.bl false)
  | .or a b => (truB (ev ρ false a)).bind fun k => if k then .ok (.bl true) else ofB (truB (ev ρ false b))
  | .not a => (truB (ev ρ false a)).bind fun k => .ok (.bl (!k))
  | .ite c a b => (truB (ev ρ false c)).bind fun k => if k then ev ρ false a else ev ρ false b
  | .tup es => (evs ρ false es).bind fun l => if l.length ≤ LL then .ok (.tup l) else .stk
  | .lst es => (evs ρ false es).bind fun l => if l.length ≤ LL then .ok (.lst l) else .stk
  | .idx a i => (ev ρ true a).bind fun x => (ev ρ false i).bind fun y => idxV x y
  | .slc a lo hi => (ev ρ true a).bind fun x => (evo ρ lo).bind fun l => (evo ρ hi).bind fun h => slcV x l h
  | .slcS a st => (ev ρ true a).bind fun x => (evo ρ st).bind fun y => slcSV x y
  | .call f es => (evs ρ false es).bind fun l => Φ f l
  | .callD f es d => (evs ρ false es).bind fun l => Φ f (l ++ [.int d])
  | .callK f es e => (evs ρ false es).bind fun l => (ev ρ false e).bind fun v => Φ f (l ++ [v])
  | .bfn b es => (evs ρ true es).bind fun l => bfn b l
  | .isi a ts => (ev ρ false a).bind fun x => ofB (anyTy ts x)
  | .comp e t s c ws => (evi ρ true s).bind fun l => if l.length ≤ LL then (compL (fun x => setT t x (wipeE ρ ws)) (fun ρ' => (evc ρ' c).nox) (fun ρ' => (ev ρ' false e).nox) l).bind fun ys => .ok (.lst ys) else .stk
  | .dix i k => (dV ρ i).bind fun t => (ev ρ false k).bind fun y => (getT t y).bind fun o => match o with | some d => .ok d | none => .stk
  | .dgt i k d => (dV ρ i).bind fun t => (ev ρ false k).bind fun y => (ev ρ false d).bind fun z => (getT t y).bind fun o => .ok (o.getD z)
  | .dso i => (dV ρ i).bind srtD
  | .sset a => (ev ρ true a).bind fun x => match x with | .lst l => setT1 l | _ => .stk
  | .maxd a d => (ev ρ true a).bind fun x => (ev ρ false d).bind fun z => match x with | .lst [] => .ok z | .lst l => maxL l | _ => .stk
  | .inn n a b => (ev ρ false a).bind fun x => (ev ρ true b).bind fun y => (inV x y).bind fun k => .ok (.bl (k != n))
noncomputable def evs (ρ : Env) (x : Bool) : Exs → R (List D)
  | .nil => .ok []
  | .cons e es => (ev ρ x e).bind fun v => (evs ρ x es).bind fun l => .ok (v :: l)
noncomputable def evo (ρ : Env) : Eo → R (Option Int)
  | .no => .ok none
  | .yes e => match ev ρ false e with | .ok (.int i) => .ok (some i) | .exc c => .exc c | _ => .stk
noncomputable def evc (ρ : Env) : Eo → R Bool
  | .no => .ok true
  | .yes e => truB (ev ρ false e)
noncomputable def evi (ρ : Env) (x : Bool) : Src → R (List D)
  | .it e => (ev ρ x e).bind itemsV
  | .rng es => (evs ρ false es).bind rngV
  | .enm e => (ev ρ x e).bind enmV
  | .zip a b => (ev ρ x a).bind fun u => (ev ρ x b).bind fun v => zipV u v
end
end
/-! ### statements -/
mutual
inductive S where
  | asg (i : Nat) (e : Ex) (fr : Bool) | unp (t : Tg) (e : Ex) | par (i j : Nat) (a b : Ex) | par3 (i j l : Nat) (a b c : Ex)
  | aug (i : Nat) (o : Bo) (e : Ex) | app (i : Nat) (e : Ex) | setI (i : Nat) (k e : Ex) | augI (i : Nat) (k : Ex) (o : Bo) (e : Ex)
  | ife (c : Ex) (a b : Ss) | for_ (t : Tg) (s : Src) (b : Ss) | forE (t : Tg) (i : Nat) (b : Ss) | whl (c : Ex) (b : Ss)
  | ret (e : Ex) | rse (c : Nat) | exp (e : Ex) | brk | cnt | pas
  | dnw (i : Nat) (t : Bool) | dst (i : Nat) (k e : Ex)
  | parO (i j : Nat) (a b : Ex) (f g : Bool) | par3O (i j l : Nat) (a b c : Ex) (f g h : Bool)
  | tryK (b : Ss) (e k : Nat)
inductive Ss where
  | nil | cons (s : S) (ss : Ss) | frz (i : Nat) (ss : Ss)
end
inductive Out where
  | nx (ρ : Env) | ret (d : D) | bk (ρ : Env) | ct (ρ : Env) | exc (c : Nat) (ρ : Env) | stk
def mkSl : Bool → D → Sl
  | true, .lst l => .own (.lst l)
  | _, d => .sh d
/-- what a handler tells of a refusal's kin: it stands where the class's number stands -/
def kinOf : D → Option (List D)
  | .tup [.exc _, .lst l] => some l
  | _ => none
def frzE (i : Nat) (ρ : Env) : Env := match ρ[i]? with | some (.own d) => ρ.set i (.sh d) | _ => ρ
def Out.ofR {α : Type} (ρ : Env) : R α → (α → Out) → Out
  | .ok a, f => f a
  | .exc c, _ => .exc c ρ
  | .stk, _ => .stk
@[simp] theorem Out.ofR_ok {α : Type} (ρ : Env) (a : α) (f : α → Out) : Out.ofR ρ (.ok a) f = f a := rfl
@[simp] theorem Out.ofR_exc {α : Type} (ρ : Env) (c : Nat) (f : α → Out) : Out.ofR ρ (.exc c) f = .exc c ρ := rfl
@[simp] theorem Out.ofR_stk {α : Type} (ρ : Env) (f : α → Out) : Out.ofR ρ .stk f = .stk := rfl
def ownL (ρ : Env) (i : Nat) (f : List D → Out) : Out := match ρ[i]? with | some (.own (.lst l)) => f l | _ => .stk
def shV (ρ : Env) (i : Nat) (f : D → Out) : Out := match ρ[i]? with | some (.sh d) => f d | _ => .stk
/-- behind a loop over an own list -/
def Out.back (i : Nat) (s : Sl) : Out → Out
  | .nx ρ => .nx (ρ.set i s)
  | .bk _ => .stk
  | .ct _ => .stk
  | o => o
noncomputable def augV (o : Bo) : D → D → R D
  | .int a, .int b => bin o (.int a) (.int b)
  | _, _ => .stk
def ixV (n : Nat) : D → R Nat
  | .int i => match ixN n i with | some j => .ok j | none => .stk
  | _ => .stk
def getV (l : List D) (j : Nat) : R D := match l[j]? with | some d => .ok d | none => .stk
def forL (st : D → Env → R Env) (b : Env → Out) : List D → Env → Out
  | [], ρ => .nx ρ
  | x :: r, ρ => Out.ofR ρ (st x ρ) fun ρ1 => match b ρ1 with
    | .nx ρ2 => forL st b r ρ2
    | .ct ρ2 => forL st b r ρ2
    | .bk ρ2 => .nx ρ2
    | o => o
def whlN (c : Env → R Bool) (b : Env → Out) : Nat → Env → Option Out
  | 0, _ => none
  | n + 1, ρ => match c ρ with
    | .ok true => (match b ρ with
      | .nx ρ2 => whlN c b n ρ2
      | .ct ρ2 => whlN c b n ρ2
      | .bk ρ2 => some (.nx ρ2)
      | o => some o)
    | .ok false => some (.nx ρ)
    | .exc k => some (.exc k ρ)
    | .stk => some .stk
open Classical in
noncomputable def whlR (c : Env → R Bool) (b : Env → Out) (ρ : Env) : Out := if h : ∃ n o, whlN c b n ρ = some o then Classical.choose (Classical.choose_spec h) else .stk
section
variable (Φ : Nat → List D → R D) (C : Nat → D)
mutual
noncomputable def exS : S → Env → Out
  | .asg i e fr, ρ => Out.ofR ρ (ev Φ C ρ false e) fun d => Out.ofR ρ (stE ρ i (mkSl fr d)) .nx
  | .unp t e, ρ => Out.ofR ρ (ev Φ C ρ false e) fun d => Out.ofR ρ (setT t d ρ) .nx
  | .par i j a b, ρ => Out.ofR ρ (ev Φ C ρ false a) fun x => Out.ofR ρ (ev Φ C ρ false b) fun y => Out.ofR ρ ((stE ρ i (.sh x)).bind fun ρ' => stE ρ' j (.sh y)) .nx
  | .par3 i j l a b c, ρ => Out.ofR ρ (ev Φ C ρ false a) fun x => Out.ofR ρ (ev Φ C ρ false b) fun y => Out.ofR ρ (ev Φ C ρ false c) fun z => Out.ofR ρ ((stE ρ i (.sh x)).bind fun ρ' => (stE ρ' j (.sh y)).bind fun ρ'' => stE ρ'' l (.sh z)) .nx
  | .aug i o e, ρ => shV ρ i fun x => Out.ofR ρ (ev Φ C ρ false e) fun y => Out.ofR ρ (augV o x y) fun z => .nx (ρ.set i (.sh z))
  | .app i e, ρ => ownL ρ i fun l => Out.ofR ρ (ev Φ C ρ false e) fun d => if l.length < LL then .nx (ρ.set i (.own (.lst (l ++ [d])))) else .stk
  | .setI i k e, ρ => ownL ρ i fun l => Out.ofR ρ (ev Φ C ρ false e) fun d => Out.ofR ρ (ev Φ C ρ false k) fun z => Out.ofR ρ (ixV l.length z) fun j => .nx (ρ.set i (.own (.lst (l.set j d))))
  | .augI i k o e, ρ => ownL ρ i fun l => Out.ofR ρ (ev Φ C ρ false k) fun z => Out.ofR ρ (ixV l.length z) fun j => Out.ofR ρ (getV l j) fun x =>
      Out.ofR ρ (ev Φ C ρ false e) fun y => Out.ofR ρ (augV o x y) fun w => .nx (ρ.set i (.own (.lst (l.set j w))))
  | .ife c a b, ρ => Out.ofR ρ (truB (ev Φ C ρ false c)) fun k => if k then exSs a ρ else exSs b ρ
  | .for_ t s b, ρ => Out.ofR ρ (evi Φ C ρ false s) fun l => forL (fun x ρ' => setT t x ρ') (fun ρ' => exSs b ρ') l ρ
  | .forE t i b, ρ => ownL ρ i fun l => Out.back i (.own (.lst l)) (forL (fun x ρ' => setT t x ρ') (fun ρ' => exSs b ρ') (enmL l) (ρ.set i .lk))
  | .whl c b, ρ => whlR (fun ρ' => truB (ev Φ C ρ' false c)) (fun ρ' => exSs b ρ') ρ
  | .ret e, ρ => Out.ofR ρ (ev Φ C ρ false e) fun d => .ret d
  | .rse c, ρ => .exc c ρ
  | .exp e, ρ => Out.ofR ρ (ev Φ C ρ false e) fun _ => .nx ρ
  | .parO i j a b f g, ρ => Out.ofR ρ (ev Φ C ρ false a) fun x => Out.ofR ρ (ev Φ C ρ false b) fun y => Out.ofR ρ ((stE ρ i (mkSl f x)).bind fun ρ' => stE ρ' j (mkSl g y)) .nx
  | .par3O i j l a b c f g h, ρ => Out.ofR ρ (ev Φ C ρ false a) fun x => Out.ofR ρ (ev Φ C ρ false b) fun y => Out.ofR ρ (ev Φ C ρ false c) fun z => Out.ofR ρ ((stE ρ i (mkSl f x)).bind fun ρ' => (stE ρ' j (mkSl g y)).bind fun ρ'' => stE ρ'' l (mkSl h z)) .nx
  | .dnw i t, ρ => Out.ofR ρ (stE ρ i (.own (if t then .dT [] else .dK []))) .nx
  | .dst i k e, ρ => Out.ofR ρ (dO ρ i) fun t => Out.ofR ρ (ev Φ C ρ false e) fun d => Out.ofR ρ (ev Φ C ρ false k) fun z => Out.ofR ρ (putT t z d) fun t' => .nx (ρ.set i (.own t'))
  | .tryK b e k, ρ => match exSs b ρ with
    | .exc c ρ' => (match kinOf (C c) with | some l => Out.ofR ρ' ((stE ρ' e .un).bind fun ρ'' => stE ρ'' k (.sh (.lst l))) .nx | none => .stk)
    | o => o
  | .brk, ρ => .bk ρ
  | .cnt, ρ => .ct ρ
  | .pas, ρ => .nx ρ
noncomputable def exSs : Ss → Env → Out
  | .nil, ρ => .nx ρ
  | .frz i ss, ρ => exSs ss (frzE i ρ)
  | .cons s ss, ρ => match exS s ρ with
    | .nx ρ' => exSs ss ρ'
    | o => o
end
end
/-- a def: how many names, how many of them parameters, its body -/
structure Fd where
  nn : Nat
  ar : Nat
  body : Ss
def start (f : Fd) (vs : List D) : Env := vs.map .sh ++ List.replicate (f.nn - vs.length) .un
/-- a program: its defs by number -/
noncomputable def call (P : Nat → Option Fd) (C : Nat → D) : Nat → Nat → List D → R D
  | 0, _, _ => .stk
  | n + 1, f, vs => match P f with
    | none => .stk
    | some fd => if vs.length = fd.ar then (match exSs (call P C n) C fd.body (start fd vs) with
      | .nx _ => .ok .non
      | .ret d => .ok d
      | .exc c _ => .exc c
      | _ => .stk) else .stk
end Rv
/-! What stands for data in a heap; readings by evaluation. -/
namespace Rv
open PySem PySem.Spec PyProof.Rows L2
/-- a list that never changes from here on: it is frozen, or known -/
def LsAt (K : PySem.W.Frag) (F : Addr → Prop) (H : Hp) (a : Addr) (xs : List V) : Prop := (F a ∧ H a = some (.lst xs)) ∨ (∃ o, H a = some (.frz o (.lst xs))) ∨
  ∃ (o : Obj) (its : Array Value) (n : Nat), K.lookup a = some o ∧ o.cls = .type "list" ∧ o.dict = none ∧ o.data = .seq its n ∧ its.size ≤ sizeLine ∧ Vals xs its.toList
mutual
inductive Rep (K : PySem.W.Frag) (F : Addr → Prop) (H : Hp) : V → D → Prop
  | non : Rep K F H .non .non
  | bl (b : Bool) : Rep K F H (.bl b) (.bl b)
  | int (i : Int) : Rep K F H (.int i) (.int i)
  | str (s : Str) : Rep K F H (.str s) (.str s)
  | lst {a : Addr} {xs : List V} {ds : List D} : LsAt K F H a xs → Reps K F H xs ds → Rep K F H (.ref a) (.lst ds)
  | tup {a : Addr} {xs : List V} {ds : List D} : SqT K H a xs → (fixB ds = false → H a = some (.tup xs)) → Reps K F H xs ds → Rep K F H (.ref a) (.tup ds)
  | dK {a : Addr} {xs : List (Key × V)} {ds : List (Key × D)} : F a → H a = some (.dK xs) → xs.map (·.1) = ds.map (·.1) → Reps K F H (xs.map (·.2)) (ds.map (·.2)) → Rep K F H (.ref a) (.dK ds)
  | dT {a : Addr} {xs : List (List Key × V)} {ds : List (List Key × D)} : F a → H a = some (.dT xs) → xs.map (·.1) = ds.map (·.1) → Reps K F H (xs.map (·.2)) (ds.map (·.2)) → Rep K F H (.ref a) (.dT ds)
inductive Reps (K : PySem.W.Frag) (F : Addr → Prop) (H : Hp) : List V → List D → Prop
  | nil : Reps K F H [] []
  | cons {v : V} {vs : List V} {d : D} {ds : List D} : Rep K F H v d → Reps K F H vs ds → Reps K F H (v :: vs) (d :: ds)
end
/-- what is kept where own lists may change -/
structure Pres (F : Addr → Prop) (H H' : Hp) : Prop where
  lst : ∀ a o, F a → H a = some o → H' a = some o
  frz : ∀ a o u, H a = some (.frz o u) → H' a = some (.frz o u)
  tup : ∀ a xs, H a = some (.tup xs) → H' a = some (.tup xs)
/-- the heap grows, more is frozen: new things alone -/
structure Ext (F F' : Addr → Prop) (H H' : Hp) : Prop where
  keep : ∀ a o, H a = some o → H' a = some o
  sub : ∀ a, F a → F' a
  new : ∀ a, F' a → F a ∨ (H a = none ∧ ∃ o, H' a = some o)
/-- what is frozen stands -/
def Dom (F : Addr → Prop) (H : Hp) : Prop := ∀ a, F a → ∃ o, H a = some o
section
variable {K : PySem.W.Frag} {F F' F'' : Addr → Prop} {H H' H'' : Hp}
theorem Dom.ne (d : Dom F H) {a : Addr} (h : H a = none) : ¬ F a := fun z => by
  obtain ⟨o, e⟩ := d a z
  rw [h] at e; cases e
theorem Dom.ext (d : Dom F H) (e : Ext F F' H H') : Dom F' H' := fun a z => by
  rcases e.new a z with h | ⟨_, h⟩
  · obtain ⟨o, q⟩ := d a h
    exact ⟨o, e.keep _ _ q⟩
  · exact h
theorem Ext.refl : Ext F F H H := ⟨fun _ _ h => h, fun _ h => h, fun _ h => .inl h⟩
theorem Ext.trans (a : Ext F F' H H') (b : Ext F' F'' H' H'') : Ext F F'' H H'' := ⟨fun x o h => b.keep x o (a.keep x o h), fun x h => b.sub x (a.sub x h), fun x h => by
  rcases b.new x h with h | ⟨h, k⟩
  · rcases a.new x h with h | ⟨h, o, q⟩
    · exact .inl h
    · exact .inr ⟨h, o, b.keep _ _ q⟩
  · refine .inr ⟨?_, k⟩
    cases e : H x with
    | none => rfl
    | some o => rw [a.keep x o e] at h; cases h⟩
theorem Ext.pres (a : Ext F F' H H') : Pres F H H' := ⟨fun x xs _ h => a.keep x _ h, fun x o u h => a.keep x _ h, fun x xs h => a.keep x _ h⟩
theorem Ext.back (a : Ext F F' H H') {x : Addr} (h : H' x = none) : H x = none := by
  cases e : H x with
  | none => rfl
  | some o => rw [a.keep x o e] at h; cases h
theorem Ext.upd {p : Addr} {o : HO} (h : H p = none) : Ext F F H (upd H p o) := ⟨fun a u e => by rw [upd_ne (ne_of_none e h)]; exact e, fun _ h => h, fun _ h => .inl h⟩
theorem Ext.frz {p : Addr} {o : HO} (a : Ext F F' H H') (h : H p = none) (k : H' p = some o) : Ext F (fun x => F' x ∨ x = p) H H' := ⟨a.keep, fun x h => .inl (a.sub x h), fun x h => by
  rcases h with h | rfl
  · exact a.new x h
  · exact .inr ⟨‹_›, o, k⟩⟩
theorem LsAt.pres (p : Pres F H H') (s : ∀ a, F a → F' a) {a : Addr} {xs : List V} (h : LsAt K F H a xs) : LsAt K F' H' a xs := by
  rcases h with ⟨h1, h2⟩ | ⟨o, h⟩ | h
  · exact .inl ⟨s _ h1, p.lst _ _ h1 h2⟩
  · exact .inr (.inl ⟨o, p.frz _ _ _ h⟩)
  · exact .inr (.inr h)
theorem LsAt.sq {a : Addr} {xs : List V} (h : LsAt K F H a xs) : SqL K H a xs := by
  rcases h with ⟨_, h⟩ | ⟨o, h⟩ | h
  · exact .inl (.inl h)
  · exact .inl (.inr ⟨o, h⟩)
  · exact .inr h
theorem sqT_pres (p : Pres F H H') {a : Addr} {xs : List V} (h : SqT K H a xs) : SqT K H' a xs := by
  rcases h with (h | ⟨o, h⟩) | h
  · exact .inl (.inl (p.tup _ _ h))
  · exact .inl (.inr ⟨o, p.frz _ _ _ h⟩)
  · exact .inr h
mutual
theorem Rep.pres (p : Pres F H H') (s : ∀ a, F a → F' a) : ∀ {v : V} {d : D}, Rep K F H v d → Rep K F' H' v d
  | _, _, .non => .non
  | _, _, .bl b => .bl b
  | _, _, .int i => .int i
  | _, _, .str x => .str x
  | _, _, .lst h r => .lst (h.pres p s) (r.pres p s)
  | _, _, .tup h k r => .tup (sqT_pres p h) (fun z => p.tup _ _ (k z)) (r.pres p s)
  | _, _, .dK h e k r => .dK (s _ h) (p.lst _ _ h e) k (r.pres p s)
  | _, _, .dT h e k r => .dT (s _ h) (p.lst _ _ h e) k (r.pres p s)
theorem Reps.pres (p : Pres F H H') (s : ∀ a, F a → F' a) : ∀ {vs : List V} {ds : List D}, Reps K F H vs ds → Reps K F' H' vs ds
  | _, _, .nil => .nil
  | _, _, .cons h r => .cons (h.pres p s) (r.pres p s)
end
theorem Rep.ext (e : Ext F F' H H') {v : V} {d : D} (r : Rep K F H v d) : Rep K F' H' v d := r.pres e.pres e.sub
theorem Reps.ext (e : Ext F F' H H') {vs : List V} {ds : List D} (r : Reps K F H vs ds) : Reps K F' H' vs ds := r.pres e.pres e.sub
theorem Reps.length : ∀ {vs : List V} {ds : List D}, Reps K F H vs ds → vs.length = ds.length
  | _, _, .nil => rfl
  | _, _, .cons _ r => congrArg Nat.succ r.length
theorem Reps.get : ∀ {vs : List V} {ds : List D} {i : Nat} {d : D}, Reps K F H vs ds → ds[i]? = some d → ∃ v, vs[i]? = some v ∧ Rep K F H v d
  | _, _, _, _, .nil, e => by simp at e
  | _, _, 0, _, .cons r _, e => by simp at e; subst e; exact ⟨_, rfl, r⟩
  | _, _, i + 1, d, .cons _ t, e => by
    obtain ⟨u, h1, h2⟩ := Reps.get (i := i) (d := d) t (by simpa using e)
    exact ⟨u, by simpa using h1, h2⟩
theorem Reps.get' : ∀ {vs : List V} {ds : List D} {i : Nat} {v : V}, Reps K F H vs ds → vs[i]? = some v → ∃ d, ds[i]? = some d ∧ Rep K F H v d
  | _, _, _, _, .nil, e => by simp at e
  | _, _, 0, _, .cons r _, e => by simp at e; subst e; exact ⟨_, rfl, r⟩
  | _, _, i + 1, d, .cons _ t, e => by
    obtain ⟨u, h1, h2⟩ := Reps.get' (i := i) (v := d) t (by simpa using e)
    exact ⟨u, by simpa using h1, h2⟩
theorem Reps.append : ∀ {xs ys : List V} {ds es : List D}, Reps K F H xs ds → Reps K F H ys es → Reps K F H (xs ++ ys) (ds ++ es)
  | _, _, _, _, .nil, s => s
  | _, _, _, _, .cons r t, s => .cons r (Reps.append t s)
theorem Reps.take : ∀ {xs : List V} {ds : List D} (n : Nat), Reps K F H xs ds → Reps K F H (xs.take n) (ds.take n)
  | _, _, 0, _ => .nil
  | _, _, _ + 1, .nil => .nil
  | _, _, n + 1, .cons r t => .cons r (Reps.take n t)
theorem Reps.drop : ∀ {xs : List V} {ds : List D} (n : Nat), Reps K F H xs ds → Reps K F H (xs.drop n) (ds.drop n)
  | _, _, 0, r => r
  | _, _, _ + 1, .nil => .nil
  | _, _, n + 1, .cons _ t => Reps.drop n t
theorem Reps.set {v : V} {d : D} (r : Rep K F H v d) : ∀ {xs : List V} {ds : List D} (i : Nat), Reps K F H xs ds → Reps K F H (xs.set i v) (ds.set i d)
  | _, _, _, .nil => .nil
  | _, _, 0, .cons _ t => .cons r t
  | _, _, i + 1, .cons q t => .cons q (Reps.set r i t)
theorem Reps.rep {xs : List V} {ds : List D} (h : Reps K F H xs ds) : ∀ k : Nat, Reps K F H (List.replicate k xs).flatten (List.replicate k ds).flatten
  | 0 => .nil
  | k + 1 => by
    rw [List.replicate_succ, List.replicate_succ, List.flatten_cons, List.flatten_cons]
    exact h.append (Reps.rep h k)
theorem Reps.cut {xs : List V} {ds : List D} (h : Reps K F H xs ds) (lo hi : Option Int) : Reps K F H (cutV xs lo hi) (cutD ds lo hi) := by
  unfold cutV cutD
  rw [h.length]
  exact (h.drop _).take _
end
/-- a value, or an own list that is looked into -/
def RepX (K : PySem.W.Frag) (F : Addr → Prop) (H : Hp) (v : V) (d : D) : Prop := Rep K F H v d ∨ ∃ a xs ds, v = .ref a ∧ d = .lst ds ∧ H a = some (.lst xs) ∧ Reps K F H xs ds
/-- fr: a list is new, and not frozen -/
def VD (K : PySem.W.Frag) (fr : Bool) (H : Hp) (F' : Addr → Prop) (H' : Hp) (v : V) (d : D) : Prop := match fr, d with
  | true, .lst ds => ∃ a xs, v = .ref a ∧ ¬ F' a ∧ H a = none ∧ H' a = some (.lst xs) ∧ Reps K F' H' xs ds
  | _, d => Rep K F' H' v d
section
variable {K : PySem.W.Frag} {F F' F'' : Addr → Prop} {H H' H'' : Hp} {v : V} {d : D}
theorem Rep.x (h : Rep K F H v d) : RepX K F H v d := .inl h
theorem RepX.ext (e : Ext F F' H H') (r : RepX K F H v d) : RepX K F' H' v d := by
  rcases r with r | ⟨a, xs, ds, h1, h2, h3, h4⟩
  · exact .inl (r.ext e)
  · exact .inr ⟨a, xs, ds, h1, h2, e.keep _ _ h3, h4.ext e⟩
theorem VD.rep {fr : Bool} (h : VD K fr H F' H' v d) (hd : ∀ ds, d ≠ .lst ds) : Rep K F' H' v d := by
  cases fr with
  | false => exact h
  | true => cases d <;> first | exact h | exact absurd rfl (hd _)
theorem VD.of (h : Rep K F' H' v d) (hd : ∀ ds, d ≠ .lst ds) : ∀ {fr : Bool}, VD K fr H F' H' v d
  | false => h
  | true => by cases d <;> first | exact h | exact absurd rfl (hd _)
theorem VD.x {fr : Bool} (h : VD K fr H F' H' v d) : RepX K F' H' v d := by
  cases fr with
  | false => exact .inl h
  | true =>
    cases d with
    | lst ds =>
      obtain ⟨a, xs, h1, h2, h3, h4, h5⟩ := h
      exact .inr ⟨a, xs, ds, h1, rfl, h4, h5⟩
    | _ => exact .inl h
/-- it is frozen now -/
theorem VD.sh {fr : Bool} (e : Ext F F' H H') (h : VD K fr H F' H' v d) : ∃ F1, Ext F F1 H H' ∧ Rep K F1 H' v d := by
  cases fr with
  | false => exact ⟨F', e, h⟩
  | true =>
    cases d with
    | lst ds =>
      obtain ⟨a, xs, rfl, h2, h3, h4, h5⟩ := h
      refine ⟨fun x => F' x ∨ x = a, e.frz h3 h4, .lst (.inl ⟨.inr rfl, h4⟩) (h5.pres ⟨fun _ _ _ h => h, fun _ _ _ h => h, fun _ _ h => h⟩ fun _ h => .inl h)⟩
    | _ => exact ⟨F', e, h⟩
/-- an own list as a list: any rule that reads it -/
theorem RepX.lst {ds : List D} (h : RepX K F H v (.lst ds)) : ∃ a xs, v = .ref a ∧ SqL K H a xs ∧ Reps K F H xs ds := by
  rcases h with h | ⟨a, xs, ds', h1, h2, h3, h4⟩
  · cases h with
    | lst h r => exact ⟨_, _, rfl, h.sq, r⟩
  · cases h2; exact ⟨a, xs, h1, .inl (.inl h3), h4⟩
theorem RepX.tupK {ds : List D} (h : RepX K F H v (.tup ds)) : ∃ a xs, v = .ref a ∧ SqT K H a xs ∧ (fixB ds = false → H a = some (.tup xs)) ∧ Reps K F H xs ds := by
  rcases h with h | ⟨a, xs, ds', h1, h2, h3, h4⟩
  · cases h with
    | tup h k r => exact ⟨_, _, rfl, h, k, r⟩
  · cases h2
theorem RepX.tup {ds : List D} (h : RepX K F H v (.tup ds)) : ∃ a xs, v = .ref a ∧ SqT K H a xs ∧ Reps K F H xs ds := by
  obtain ⟨a, xs, h1, h2, _, h3⟩ := h.tupK
  exact ⟨a, xs, h1, h2, h3⟩
theorem RepX.int {i : Int} (h : RepX K F H v (.int i)) : v = .int i := by
  rcases h with h | ⟨a, xs, ds', h1, h2, h3, h4⟩
  · cases h; rfl
  · cases h2
theorem RepX.bl {i : Bool} (h : RepX K F H v (.bl i)) : v = .bl i := by
  rcases h with h | ⟨a, xs, ds', h1, h2, h3, h4⟩
  · cases h; rfl
  · cases h2
theorem RepX.str {i : Str} (h : RepX K F H v (.str i)) : v = .str i := by
  rcases h with h | ⟨a, xs, ds', h1, h2, h3, h4⟩
  · cases h; rfl
  · cases h2
theorem RepX.non (h : RepX K F H v .non) : v = .non := by
  rcases h with h | ⟨a, xs, ds', h1, h2, h3, h4⟩
  · cases h; rfl
  · cases h2
end
/-! ### dicts -/
inductive RepsA {κ : Type} (K : PySem.W.Frag) (F : Addr → Prop) (H : Hp) : List (κ × V) → List (κ × D) → Prop
  | nil : RepsA K F H [] []
  | cons {k : κ} {v : V} {d : D} {vs : List (κ × V)} {ds : List (κ × D)} : Rep K F H v d → RepsA K F H vs ds → RepsA K F H ((k, v) :: vs) ((k, d) :: ds)
section
variable {κ : Type} {K : PySem.W.Frag} {F F' : Addr → Prop} {H H' : Hp}
theorem RepsA.pres (p : Pres F H H') (s : ∀ a, F a → F' a) : ∀ {vs : List (κ × V)} {ds : List (κ × D)}, RepsA K F H vs ds → RepsA K F' H' vs ds
  | _, _, .nil => .nil
  | _, _, .cons h r => .cons (h.pres p s) (r.pres p s)
theorem RepsA.ext (e : Ext F F' H H') {vs : List (κ × V)} {ds : List (κ × D)} (r : RepsA K F H vs ds) : RepsA K F' H' vs ds := r.pres e.pres e.sub
theorem RepsA.length : ∀ {vs : List (κ × V)} {ds : List (κ × D)}, RepsA K F H vs ds → vs.length = ds.length
  | _, _, .nil => rfl
  | _, _, .cons _ r => congrArg Nat.succ r.length
theorem RepsA.keys : ∀ {vs : List (κ × V)} {ds : List (κ × D)}, RepsA K F H vs ds → vs.map (·.1) = ds.map (·.1)
  | _, _, .nil => rfl
  | _, _, .cons _ r => congrArg (_ :: ·) r.keys
theorem RepsA.of : ∀ {vs : List (κ × V)} {ds : List (κ × D)}, vs.map (·.1) = ds.map (·.1) → Reps K F H (vs.map (·.2)) (ds.map (·.2)) → RepsA K F H vs ds
  | [], [], _, _ => .nil
  | [], _ :: _, h, _ => by cases h
  | _ :: _, [], h, _ => by cases h
  | (k, v) :: vs, (j, d) :: ds, h, .cons r t => by
    obtain ⟨h1, h2⟩ := List.cons.inj h
    have h1 : k = j := h1
    subst h1
    exact .cons r (RepsA.of h2 t)
theorem RepsA.back : ∀ {vs : List (κ × V)} {ds : List (κ × D)}, RepsA K F H vs ds → Reps K F H (vs.map (·.2)) (ds.map (·.2))
  | _, _, .nil => .nil
  | _, _, .cons h r => .cons h r.back
theorem RepsA.val [DecidableEq κ] (k : κ) : ∀ {vs : List (κ × V)} {ds : List (κ × D)}, RepsA K F H vs ds → (lkA ds k = none ∧ valV vs k = none) ∨ ∃ v d, lkA ds k = some d ∧ valV vs k = some v ∧ Rep K F H v d
  | _, _, .nil => .inl ⟨rfl, rfl⟩
  | _, _, .cons (k := j) (v := v) (d := d) (vs := vs) (ds := ds) h r => by
    by_cases e : j = k
    · exact .inr ⟨v, d, by simp [lkA, List.find?_cons, e], valV_pos e, h⟩
    · have e1 : lkA ((j, d) :: ds) k = lkA ds k := by simp [lkA, List.find?_cons, e]
      rw [e1, valV_neg e]
      exact r.val k
theorem RepsA.map [DecidableEq κ] (k : κ) {v : V} {d : D} (h : Rep K F H v d) : ∀ {vs : List (κ × V)} {ds : List (κ × D)}, RepsA K F H vs ds →
    RepsA K F H (vs.map fun kv => if kv.1 = k then (kv.1, v) else kv) (ds.map fun p => if p.1 = k then (p.1, d) else p)
  | _, _, .nil => .nil
  | _, _, .cons (k := j) q r => by
    rw [List.map_cons, List.map_cons]
    by_cases e : j = k
    · rw [if_pos e, if_pos e]
      exact .cons h (r.map k h)
    · rw [if_neg e, if_neg e]
      exact .cons q (r.map k h)
theorem RepsA.snoc {k : κ} {v : V} {d : D} (h : Rep K F H v d) : ∀ {vs : List (κ × V)} {ds : List (κ × D)}, RepsA K F H vs ds → RepsA K F H (vs ++ [(k, v)]) (ds ++ [(k, d)])
  | _, _, .nil => .cons h .nil
  | _, _, .cons q r => .cons q (r.snoc h)
theorem RepsA.put [DecidableEq κ] (k : κ) {v : V} {d : D} (h : Rep K F H v d) {vs : List (κ × V)} {ds : List (κ × D)} (r : RepsA K F H vs ds) : RepsA K F H (putK vs k v) (putA ds k d) := by
  have e : (vs.any fun p => decide (p.1 = k)) = ds.any fun p => decide (p.1 = k) := by
    have := r.keys
    rw [show (vs.any fun p => decide (p.1 = k)) = (vs.map (·.1)).any fun x => decide (x = k) by rw [List.any_map]; rfl, this, List.any_map]
    rfl
  unfold putK putA
  rw [e]
  split
  · exact r.map k h
  · exact r.snoc h
end
/-! ### the names -/
/-- what holds at a def's entry: F0, H0; L: the names that loops walk, and their values -/
structure Bs where
  F : Addr → Prop
  H : Hp
  L : Nat → Option V
def SlOk (K : PySem.W.Frag) (H0 : Hp) (F : Addr → Prop) (H : Hp) (v : Option (Option V)) : Sl → Prop
  | .un => True
  | .lk => True
  | .sh d => ∃ x, v = some (some x) ∧ Rep K F H x d
  | .own (.lst ds) => ∃ a xs, v = some (some (.ref a)) ∧ ¬ F a ∧ H0 a = none ∧ H a = some (.lst xs) ∧ Reps K F H xs ds
  | .own (.dK ds) => ∃ a xs, v = some (some (.ref a)) ∧ ¬ F a ∧ H0 a = none ∧ H a = some (.dK xs) ∧ RepsA K F H xs ds
  | .own (.dT ds) => ∃ a xs, v = some (some (.ref a)) ∧ ¬ F a ∧ H0 a = none ∧ H a = some (.dT xs) ∧ RepsA K F H xs ds
  | .own _ => False
structure StOk (K : PySem.W.Frag) (B : Bs) (σ : L2.St) (ρ : Env) (F : Addr → Prop) (H : Hp) : Prop where
  len : σ.length = ρ.length
  ext : Ext B.F F B.H H
  dom : Dom F H
  dom0 : Dom B.F B.H
  sl : ∀ (i : Nat) (s : Sl), ρ[i]? = some s → SlOk K B.H F H σ[i]? s
  dis : ∀ (i j : Nat) (di dj : D), ρ[i]? = some (.own di) → ρ[j]? = some (.own dj) → i ≠ j → σ[i]? ≠ σ[j]?
  lkd : ∀ i v, B.L i = some v → ρ[i]? = some .lk ∧ σ[i]? = some (some v)
section
variable {K : PySem.W.Frag} {B : Bs} {F F' : Addr → Prop} {H0 H H' : Hp} {σ : L2.St} {ρ : Env}
theorem SlOk.ext {v : Option (Option V)} {s : Sl} (e : Ext F F' H H') (h : SlOk K H0 F H v s) : SlOk K H0 F' H' v s := by
  cases s with
  | un => trivial
  | lk => trivial
  | sh d => obtain ⟨x, h1, h2⟩ := h; exact ⟨x, h1, h2.ext e⟩
  | own d =>
    have nf : ∀ {a : Addr} {o : HO}, ¬ F a → H a = some o → ¬ F' a := fun {a o} h2 h4 z => by
      rcases e.new a z with z | ⟨z, _⟩
      · exact h2 z
      · rw [z] at h4; cases h4
    cases d with
    | lst ds =>
      obtain ⟨a, xs, h1, h2, h3, h4, h5⟩ := h
      exact ⟨a, xs, h1, nf h2 h4, h3, e.keep _ _ h4, h5.ext e⟩
    | dK ds =>
      obtain ⟨a, xs, h1, h2, h3, h4, h5⟩ := h
      exact ⟨a, xs, h1, nf h2 h4, h3, e.keep _ _ h4, h5.ext e⟩
    | dT ds =>
      obtain ⟨a, xs, h1, h2, h3, h4, h5⟩ := h
      exact ⟨a, xs, h1, nf h2 h4, h3, e.keep _ _ h4, h5.ext e⟩
    | _ => exact h
theorem StOk.mono (h : StOk K B σ ρ F H) (e : Ext F F' H H') : StOk K B σ ρ F' H' :=
  ⟨h.len, h.ext.trans e, h.dom.ext e, h.dom0, fun i s q => (h.sl i s q).ext e, h.dis, h.lkd⟩
/-- the loops' names forgotten -/
theorem StOk.nolk (h : StOk K B σ ρ F H) : StOk K { B with L := fun _ => none } σ ρ F H := ⟨h.len, h.ext, h.dom, h.dom0, h.sl, h.dis, fun _ _ z => by cases z⟩
end
/-! ### readings -/
/-- what is wanted of an outcome: rel tells how the thing stands for the datum -/
def Oc {α β : Type} (rel : (Addr → Prop) → Hp → (Addr → Prop) → Hp → β → α → Prop) (W : Nat → Hp → Prop) (F : Addr → Prop) (H : Hp) (Q : β → Hp → Prop) : R α → Prop
  | .ok a => ∀ b F' H', Ext F F' H H' → rel F H F' H' b a → Q b H'
  | .exc c => ∀ F' H', Ext F F' H H' → W c H'
  | .stk => False
/-- .. by evaluation -/
def tG {α β : Type} (K : PySem.W.Frag) (B : Bs) (W : Nat → L2.St → Hp → Prop) (rel : (Addr → Prop) → Hp → (Addr → Prop) → Hp → β → α → Prop) (f : Env → R α) : L2.St → Hp → (β → Hp → Prop) → Prop :=
  fun σ H Q => ∃ ρ F, StOk K B σ ρ F H ∧ Oc rel (fun c => W c σ) F H Q (f ρ)
abbrev rSh (K : PySem.W.Frag) : (Addr → Prop) → Hp → (Addr → Prop) → Hp → V → D → Prop := fun _ _ F' H' v d => Rep K F' H' v d
abbrev rX (K : PySem.W.Frag) : (Addr → Prop) → Hp → (Addr → Prop) → Hp → V → D → Prop := fun _ _ F' H' v d => RepX K F' H' v d
abbrev rV (K : PySem.W.Frag) (fr : Bool) : (Addr → Prop) → Hp → (Addr → Prop) → Hp → V → D → Prop := fun _ H F' H' v d => VD K fr H F' H' v d
abbrev rEq {α : Type} : (Addr → Prop) → Hp → (Addr → Prop) → Hp → α → α → Prop := fun _ _ _ _ a b => a = b
inductive RepsX (K : PySem.W.Frag) (F : Addr → Prop) (H : Hp) : List V → List D → Prop
  | nil : RepsX K F H [] []
  | cons {v : V} {vs : List V} {d : D} {ds : List D} : RepX K F H v d → RepsX K F H vs ds → RepsX K F H (v :: vs) (d :: ds)
abbrev rShs (K : PySem.W.Frag) : (Addr → Prop) → Hp → (Addr → Prop) → Hp → List V → List D → Prop := fun _ _ F' H' v d => Reps K F' H' v d
abbrev rXs (K : PySem.W.Frag) : (Addr → Prop) → Hp → (Addr → Prop) → Hp → List V → List D → Prop := fun _ _ F' H' v d => RepsX K F' H' v d
theorem RepsX.ext {K : PySem.W.Frag} {F F' : Addr → Prop} {H H' : Hp} (e : Ext F F' H H') : ∀ {vs : List V} {ds : List D}, RepsX K F H vs ds → RepsX K F' H' vs ds
  | _, _, .nil => .nil
  | _, _, .cons h r => .cons (h.ext e) (r.ext e)
section
variable {α β γ δ : Type} {K : PySem.W.Frag} {B : Bs} {F F' : Addr → Prop} {H H' : Hp} {W : Nat → L2.St → Hp → Prop} {σ : L2.St} {ρ : Env}
variable {rel : (Addr → Prop) → Hp → (Addr → Prop) → Hp → β → α → Prop} {rel' : (Addr → Prop) → Hp → (Addr → Prop) → Hp → δ → γ → Prop}
/-- rel may begin later -/
class Late (rel : (Addr → Prop) → Hp → (Addr → Prop) → Hp → β → α → Prop) : Prop where
  of : ∀ {F F1 F' H H1 H' b a}, Ext F F1 H H1 → Ext F1 F' H1 H' → rel F1 H1 F' H' b a → rel F H F' H' b a
instance : Late (rSh K) := ⟨fun _ _ h => h⟩
instance : Late (rX K) := ⟨fun _ _ h => h⟩
instance : Late (rShs K) := ⟨fun _ _ h => h⟩
instance : Late (rXs K) := ⟨fun _ _ h => h⟩
instance : Late (rEq (α := α)) := ⟨fun _ _ h => h⟩
instance {fr : Bool} : Late (rV K fr) := ⟨fun {F F1 F' H H1 H' b a} e _ h => by
  cases fr with
  | false => exact h
  | true =>
    cases a with
    | lst ds =>
      obtain ⟨x, xs, h1, h2, h3, h4, h5⟩ := h
      exact ⟨x, xs, h1, h2, e.back h3, h4, h5⟩
    | _ => exact h⟩
theorem Oc.ext [Late rel] {W : Nat → Hp → Prop} {Q : β → Hp → Prop} {r : R α} (e : Ext F F' H H') (h : Oc rel W F H Q r) : Oc rel W F' H' Q r := by
  cases r with
  | ok a => exact fun b F1 H1 e1 q => h b F1 H1 (e.trans e1) (Late.of e e1 q)
  | exc c => exact fun F1 H1 e1 => h F1 H1 (e.trans e1)
  | stk => exact h
/-- the first part, then the rest -/
theorem oc_bind [Late rel'] {f : Env → R α} {g : α → R γ} {Q : δ → Hp → Prop} (st : StOk K B σ ρ F H) (o : Oc rel' (fun c => W c σ) F H Q ((f ρ).bind g)) :
    tG K B W rel f σ H fun b H1 => ∃ F1 a, Ext F F1 H H1 ∧ StOk K B σ ρ F1 H1 ∧ rel F H F1 H1 b a ∧ Oc rel' (fun c => W c σ) F1 H1 Q (g a) := by
  refine ⟨ρ, F, st, ?_⟩
  cases e : f ρ with
  | ok a =>
    rw [e] at o
    exact fun b F1 H1 e1 q => ⟨F1, a, e1, st.mono e1, q, Oc.ext e1 o⟩
  | exc c => rw [e] at o; exact o
  | stk => rw [e] at o; exact o
/-- .. and what the first part came to -/
theorem oc_bindE [Late rel'] {f : Env → R α} {g : α → R γ} {Q : δ → Hp → Prop} (st : StOk K B σ ρ F H) (o : Oc rel' (fun c => W c σ) F H Q ((f ρ).bind g)) :
    tG K B W rel f σ H fun b H1 => ∃ F1 a, f ρ = .ok a ∧ Ext F F1 H H1 ∧ StOk K B σ ρ F1 H1 ∧ rel F H F1 H1 b a ∧ Oc rel' (fun c => W c σ) F1 H1 Q (g a) := by
  refine ⟨ρ, F, st, ?_⟩
  cases e : f ρ with
  | ok a =>
    rw [e] at o
    exact fun b F1 H1 e1 q => ⟨F1, a, rfl, e1, st.mono e1, q, Oc.ext e1 o⟩
  | exc c => rw [e] at o; exact o
  | stk => rw [e] at o; exact o
theorem tG.intro {f : Env → R α} {Q : β → Hp → Prop} (st : StOk K B σ ρ F H) (h : Oc rel (fun c => W c σ) F H Q (f ρ)) : tG K B W rel f σ H Q := ⟨ρ, F, st, h⟩
theorem tG.imp {f : Env → R α} {Q Q' : β → Hp → Prop} (h : tG K B W rel f σ H Q) (k : ∀ b H, Q b H → Q' b H) : tG K B W rel f σ H Q' := by
  obtain ⟨ρ, F, st, o⟩ := h
  refine ⟨ρ, F, st, ?_⟩
  cases e : f ρ with
  | ok a => rw [e] at o; exact fun b F' H' e q => k _ _ (o b F' H' e q)
  | exc c => rw [e] at o; exact o
  | stk => rw [e] at o; exact o
end
theorem PE.imp {X : Cx} {e : Expr} {t t' : TE} (h : PE X e t) (k : ∀ σ H Q, t' σ H Q → t σ H Q) : PE X e t' := ⟨fun pins s σ H Q I q => h.run pins s σ H Q I (k _ _ _ q)⟩
theorem PT.imp {X : Cx} {e : Expr} {t t' : TT} (h : PT X e t) (k : ∀ σ H Q, t' σ H Q → t σ H Q) : PT X e t' := ⟨fun pins s σ H Q I q => h.run pins s σ H Q I (k _ _ _ q)⟩
theorem PW.imp {X : Cx} {e : Expr} {t t' : TT} (h : PW X e t) (k : ∀ σ H Q, t' σ H Q → t σ H Q) : PW X e t' := ⟨fun wh pins s σ H Q I q => h.run wh pins s σ H Q I (k _ _ _ q)⟩
theorem PA.imp {X : Cx} {e : List Expr} {t t' : TA} (h : PA X e t) (k : ∀ σ H Q, t' σ H Q → t σ H Q) : PA X e t' := ⟨fun pos pins s σ H Q I q => h.run pos pins s σ H Q I (k _ _ _ q)⟩
theorem PO.imp {X : Cx} {e : Option Expr} {t t' : TO} (h : PO X e t) (k : ∀ σ H Q, t' σ H Q → t σ H Q) : PO X e t' := ⟨fun pins s σ H Q I q => h.run pins s σ H Q I (k _ _ _ q)⟩
theorem PS.imp {X : Cx} {e : Stmt} {t t' : TS} (h : PS X e t) (k : ∀ D σ H, t' D σ H → t D σ H) : PS X e t' := ⟨fun pins s σ H D I q => h.run pins s σ H D I (k _ _ _ q)⟩
theorem PSs.imp {X : Cx} {e : List Stmt} {t t' : TS} (h : PSs X e t) (k : ∀ D σ H, t' D σ H → t D σ H) : PSs X e t' := ⟨fun pins s σ H D I q => h.run pins s σ H D I (k _ _ _ q)⟩
theorem PI.imp {X : Cx} {tg e : Expr} {t t' : TI} (h : PI X tg e t) (k : ∀ σ H R, t' σ H R → t σ H R) : PI X tg e t' := ⟨fun pins s σ H R I q => h.run pins s σ H R I (k _ _ _ q)⟩
end Rv
/-! The operators, by data. -/
namespace Rv
open PySem PySem.Spec PyProof.Rows L2
theorem mulOk.ok {i j : Int} (h : mulOk i j) : IntMulOk i j := by
  have b : ∀ x : Int, Builtin.Int.intBits x ≤ x.natAbs.log2 + 1 := fun x => by unfold Builtin.Int.intBits; split <;> omega
  have sm : ∀ {x : Int}, x.natAbs < 2 ^ 63 → Builtin.Int.intBits x ≤ 64 := fun {x} z => by
    have z1 := b x
    by_cases h0 : x.natAbs = 0
    · rw [h0] at z1
      have : Nat.log2 0 = 0 := by decide
      omega
    · have := (Nat.log2_lt h0).mpr z
      omega
  rcases h with (h | h) | ⟨p, q⟩
  · exact IntMulOk.of_left (sm h)
  · exact IntMulOk.of_right (sm h)
  have b1 := b i
  have b2 := b j
  unfold IntMulOk
  intro z
  have z2 := (Bool.and_eq_true_iff.mp z).2
  unfold Builtin.Int.intTooBig at z2
  have z3 := of_decide_eq_true z2
  have e : bitsLine = 134217728 := by decide
  omega
theorem ll_line {n : Nat} (h : n ≤ LL) : n ≤ sizeLine := Nat.le_trans h (by decide)
theorem ll_lt {n : Nat} (h : n < LL) : n < sizeLine := Nat.lt_of_lt_of_le h (by decide)
section
variable {X : Cx}
def noW : Nat → Hp → Prop := fun _ _ => False
/-- a two-place operation by data -/
def rBin (K : PySem.W.Frag) (fr : Bool) (f : D → D → R D) : R2 := fun x y H Q => ∃ F a b, Dom F H ∧ RepX K F H x a ∧ RepX K F H y b ∧ Oc (rV K fr) noW F H Q (f a b)
theorem oc_val {K : PySem.W.Frag} {fr : Bool} {F : Addr → Prop} {H : Hp} {Q : VK} {d : D} {v : V} (h : Oc (rV K fr) noW F H Q (.ok d)) (r : Rep K F H v d) (hd : ∀ ds, d ≠ .lst ds) : Q v H := h v F H Ext.refl (VD.of r hd)
theorem oc_new {K : PySem.W.Frag} {F : Addr → Prop} {H : Hp} {Q : VK} {ds : List D} {xs : List V} (h : Oc (rV K true) noW F H Q (.ok (.lst ds))) (dm : Dom F H) (r : Reps K F H xs ds) :
    ∀ p, H p = none → Q (.ref p) (upd H p (.lst xs)) := fun p hp =>
  h _ F _ (Ext.upd hp) ⟨p, xs, rfl, dm.ne hp, hp, upd_same, r.ext (Ext.upd hp)⟩
theorem oc_tup {K : PySem.W.Frag} {fr : Bool} {F : Addr → Prop} {H : Hp} {Q : VK} {ds : List D} {xs : List V} (h : Oc (rV K fr) noW F H Q (.ok (.tup ds))) (r : Reps K F H xs ds) :
    ∀ p, H p = none → Q (.ref p) (upd H p (.tup xs)) := fun p hp => h _ F _ (Ext.upd hp) (VD.of (.tup (.inl (.inl upd_same)) (fun _ => upd_same) (r.ext (Ext.upd hp))) (by simp))
theorem sq_obj {pins : List (Addr × Obj)} {σ : L2.St} {H : Hp} {s : Shared} {l : Addr} {xs : List V} (I : Inv X pins σ H s) (h : SqL X.K H l xs) :
    ∃ (its : List Value) (n : Nat) (sl : Array (Option Value)), Vals xs its ∧ xs.length = its.length ∧ s.heap.get? l = some { cls := .type "list", dict := none, data := .seq its.toArray n, slots := sl } := by
  obtain ⟨its, rv, ⟨o, n, ho, hc, hd, hs⟩, _⟩ := I.list h
  obtain ⟨c, d, q, sl⟩ := o
  dsimp only at hc hd hs
  subst hc hd hs
  exact ⟨its, n, sl, rv, rv.length, ho⟩
/-- list + list -/
theorem catL : OpR X (binaryOp .Add) (fun x y H Q => ∃ l b xs zs, x = .ref l ∧ y = .ref b ∧ SqL X.K H l xs ∧ SqL X.K H b zs ∧ xs.length + zs.length ≤ sizeLine ∧ ∀ p, H p = none → Q (.ref p) (upd H p (.lst (xs ++ zs)))) := by
  intro pins s σ H x y v u Q I rx ry ⟨l, b, xs, zs, ex, ey, hH, hB, hz, q⟩
  subst ex ey
  cases rx; cases ry
  obtain ⟨its, n, sl, r, hl, e⟩ := sq_obj I hH
  obtain ⟨its', n', sl', r', hl', e'⟩ := sq_obj I hB
  have e0 : its.toArray ++ its'.toArray = (its ++ its').toArray := by simp
  refine concat_meets ⟨_, e, rfl⟩ ⟨_, e', rfl⟩ noFill_list_add seq_list_add PySem.F.slot_list_add PySem.F.entry_list_add (PySem.F.args_list_add_2 _ _)
    (list_addW l b its.toArray its'.toArray n n' none none sl sl' (by simp only [List.size_toArray]; omega)) ⟨e, e', ?_⟩
  rw [e0]
  exact ⟨.ref _, _, I.lnew (t' := s.toks) (r.append r') (by simp only [List.length_append]; omega), rfl, q _ I.fresh⟩
theorem mulW (l : Addr) (its : Array Value) (n : Nat) (sl : Array (Option Value)) (x : Int) (u : Tok) (c0 : ¬(!Builtin.List.listFitsIndex x) = true) (c1 : ¬its.size * x.toNat > (2 ^ 63 - 1) / 8) (c2 : ¬Builtin.List.listTooLong (its.size * x.toNat) = true) :
    Meets (Builtin.«list.__mul__» ⟨[.ref l, .int x u], []⟩) (fun _ R s => s.heap.get? l = some { cls := .type "list", dict := none, data := .seq its n, slots := sl } ∧
      R (.ok (.ret (Value.ref s.heap.objs.size))) { s with heap := s.heap.push { cls := Value.type "list", data := Data.seq (List.foldl (fun x1 x2 => x1 ++ x2) #[] (List.replicate (if its.isEmpty = true then 0 else x.toNat) its)) }, toks := s.toks }) :=
  .of_wp fun prog w A R s h => by
    obtain ⟨hp, g, d, tk, os⟩ := s
    obtain ⟨hl, h⟩ := h
    have hz := AutoListH.joined_fits c2
    wp_walk
    refine wpAny_ite_false (decide_eq_false (Nat.not_lt.mpr hz)) ?_
    wp_walk
    exact ⟨_, rfl, h⟩
theorem rmulW (a : Int) (t : Tok) (l : Addr) (its : Array Value) (n : Nat) (sl : Array (Option Value)) :
    Meets (Builtin.«int.__rmul__» ⟨[.int a t, .ref l], []⟩) (fun _ R s => s.heap.get? l = some { cls := .type "list", dict := none, data := .seq its n, slots := sl } ∧ R (.ok (.ret Value.notImplemented)) s) :=
  .of_wp fun prog w A R s h => by
    obtain ⟨hp, g, d, tk, os⟩ := s
    obtain ⟨hl, h⟩ := h
    wp_walk
    exact ⟨_, rfl, h⟩
/-- list * int -/
theorem repL : OpR X (binaryOp .Mult) (fun x y H Q => ∃ l k xs, x = .ref l ∧ y = .int k ∧ SqL X.K H l xs ∧ -(2 ^ 63) ≤ k ∧ k < 2 ^ 63 ∧ xs.length * k.toNat ≤ sizeLine ∧ ∀ p, H p = none → Q (.ref p) (upd H p (.lst (List.replicate k.toNat xs).flatten))) := by
  intro pins s σ H x y v u Q I rx ry ⟨l, k, xs, ex, ey, hH, h1, h2, hz, q⟩
  subst ex ey
  cases rx
  obtain ⟨t, et⟩ := ry
  subst et
  obtain ⟨its, n, sl, r, hl, e⟩ := sq_obj I hH
  have w1 : its.toArray.size * k.toNat ≤ sizeLine := by simp only [List.size_toArray]; rw [← hl]; exact hz
  have w2 : (sizeLine : Nat) ≤ (2 ^ 63 - 1) / 8 := by decide
  have e1 : List.foldl (fun x1 x2 => x1 ++ x2) #[] (List.replicate (if its.toArray.isEmpty = true then 0 else k.toNat) its.toArray) = (List.replicate k.toNat its).flatten.toArray := by
    have f0 := fun m : Nat => foldl_rep its m []
    simp only [List.nil_append] at f0
    have f1 := fun m : Nat => f0 m
    cases its with
    | nil => exact (f1 0).trans (by simp)
    | cons a r' => exact (by rw [if_neg (by simp)]; exact f1 _)
  refine wpAny_binaryOp_repeat_ref (T := "list") (U := "int") (by decide) ⟨_, e, rfl⟩ (fun s' => typeIs_int s' k t) noFill_list_mul F.fills_int_mul F.slot_int_rmul repeat_list F.slot_int_index.lookup ?_
  refine call_meets F.slot_int_rmul (typeIs_int s k t) F.entry_int_rmul (F.args_int_rmul_2 _ _) (rmulW k t l its.toArray n sl) ⟨e, rfl, ⟨_, e, rfl⟩, ?_⟩
  refine call_meets F.slot_list_mul ⟨_, e, rfl⟩ F.entry_list_mul (F.args_list_mul_2 _ _) (mulW l its.toArray n sl k t (by rw [fitsIndex_both h1 h2]; exact Bool.false_ne_true) (by omega) (by rw [notLongL w1]; exact Bool.false_ne_true)) ⟨e, ?_⟩
  rw [e1]
  exact ⟨.ref _, _, I.lnew (t' := s.toks) (r.rep k.toNat) (by rw [PyProof.Rows.lm_len_rep_flat, Nat.mul_comm]; exact hz), rfl, q _ I.fresh⟩
theorem tupMul1 (l : Addr) (its : Array Value) (n : Nat) (dd : Option Addr) (sl : Array (Option Value)) (u : Tok) :
    Meets (Builtin.«tuple.__mul__» ⟨[.ref l, .int 1 u], []⟩) (fun _ R s => s.heap.get? l = some { cls := .type "tuple", dict := dd, data := .seq its n, slots := sl } ∧ R (.ok (.ret (Value.ref l))) s) :=
  .of_wp fun prog w A R s h => by
    obtain ⟨hp, g, d, tk, os⟩ := s
    obtain ⟨hl, h⟩ := h
    have f1 := AutoSeq1.idx_int
    wp_walk using wpAny_loadPart' hl
    exact ⟨_, rfl, h⟩
theorem tupMul0 (l : Addr) (its : Array Value) (n : Nat) (dd : Option Addr) (sl : Array (Option Value)) (x : Int) (u : Tok) (hx : x ≤ 0) (h1 : -(2 ^ 63) ≤ x) :
    Meets (Builtin.«tuple.__mul__» ⟨[.ref l, .int x u], []⟩) (fun _ R s => s.heap.get? l = some { cls := .type "tuple", dict := dd, data := .seq its n, slots := sl } ∧ its.isEmpty = false ∧ R (.ok (.ret (Value.ref s.heap.objs.size))) { s with heap := s.heap.push { cls := Value.type "tuple", data := Data.seq #[] } }) :=
  .of_wp fun prog w A R s h => by
    obtain ⟨hp, g, d, tk, os⟩ := s
    obtain ⟨hl, he, h⟩ := h
    have f1 := AutoSeq1.idx_int
    wp_walk using wpAny_loadPart' hl
    have c0 : (decide (x < -2 ^ 63) || decide (x ≥ 2 ^ 63)) = false := by
      rw [decide_eq_false (by omega), decide_eq_false (by omega)]; rfl
    have c1 : (its.isEmpty || x == 1) = false := by
      rw [he, Bool.false_or, beq_eq_false_iff_ne]; omega
    have c2 : (decide (x ≤ 0) || its.isEmpty) = true := by rw [decide_eq_true hx]; rfl
    repeat (first
      | (refine wpAny_ite_false (decide_eq_false (by rw [c0]; exact Bool.false_ne_true)) ?_; wp_walk using wpAny_loadPart' hl)
      | (refine wpAny_ite_false (decide_eq_false (by rw [c1]; exact Bool.false_ne_true)) ?_; wp_walk using wpAny_loadPart' hl)
      | (refine wpAny_ite_true (decide_eq_true c2) ?_; wp_walk using wpAny_loadPart' hl))
    exact ⟨_, rfl, h⟩
/-- tuple * int, any small count -/
theorem repT : OpR X (binaryOp .Mult) (fun x y H Q => ∃ l k xs, x = .ref l ∧ y = .int k ∧ SqT X.K H l xs ∧ xs ≠ [] ∧ -(2 ^ 62) ≤ k ∧ k ≤ 1000 ∧ xs.length ≤ 1000 ∧ (k = 1 → Q (.ref l) H) ∧ (k ≠ 1 → ∀ p, H p = none → Q (.ref p) (upd H p (.tup (List.replicate k.toNat xs).flatten)))) := by
  intro pins s σ H x y v u Q I rx ry ⟨l, k, xs, ex, ey, hT, hne, h1, h2, hz, q1, q2⟩
  by_cases hk : 2 ≤ k
  · exact op_repT pins s σ H x y v u Q I rx ry ⟨l, k, xs, ex, ey, hT, hne, hk, h2, hz, q2 (by omega)⟩
  subst ex ey
  cases rx
  obtain ⟨t, et⟩ := ry
  subst et
  obtain ⟨its, r, ⟨⟨cls, dd, data, sl⟩, ho, hc, n, hd⟩, hs⟩ := I.tuple hT
  simp only at hc hd
  subst hc hd
  have hi : its.toArray.isEmpty = false := by
    cases its with
    | nil => cases r; exact absurd rfl hne
    | cons a b => rfl
  refine wpAny_binaryOp_repeat_ref (T := "tuple") (U := "int") (by decide) ⟨_, ho, rfl⟩ (fun s' => typeIs_int s' k t) noFill_tuple_mul F.fills_int_mul F.slot_int_rmul repeat_tuple F.slot_int_index.lookup ?_
  refine call_meets F.slot_int_rmul (typeIs_int s k t) F.entry_int_rmul (F.args_int_rmul_2 _ _) (int_rmul_tuple k t l its.toArray n dd sl) ⟨ho, rfl, ⟨_, ho, rfl⟩, ?_⟩
  by_cases e1 : k = 1
  · subst e1
    exact call_meets F.slot_tuple_mul ⟨_, ho, rfl⟩ F.entry_tuple_mul (F.args_tuple_mul_2 _ _) (tupMul1 l its.toArray n dd sl t) ⟨ho, .ref l, H, I, rfl, q1 rfl⟩
  · refine call_meets F.slot_tuple_mul ⟨_, ho, rfl⟩ F.entry_tuple_mul (F.args_tuple_mul_2 _ _) (tupMul0 l its.toArray n dd sl k t (by omega) (by omega)) ⟨ho, hi, ?_⟩
    have q := q2 e1
    rw [show k.toNat = 0 by omega] at q
    refine ⟨.ref s.heap.objs.size, _, I.laid (t' := s.toks) (o := .tup []) (fun b ob q => Heap.get?_push_of_some _ q) (Nat.le_refl _) ?_, rfl, q _ (I.hok.fresh (Nat.le_refl _))⟩
    exact ⟨Nat.zero_le _, [], .nil, ⟨_, Heap.get?_push_size _ rfl, rfl, 0, rfl⟩⟩
def opOf : Bo → Operator
  | .add => .Add | .sub => .Sub | .mul => .Mult | .fdv => .FloorDiv | .mod => .Mod | .pow => .Pow
theorem op_bin (o : Bo) : OpR X (binaryOp (opOf o)) (rBin X.K true (bin o)) := by
  intro pins s σ H x y v u Q I rx ry ⟨F, a, b, dm, ra, rb, h⟩
  cases o with
  | add =>
    cases a <;> cases b <;> try exact h.elim
    case int.int i j =>
      cases ra.int; cases rb.int
      exact op_add pins s σ H _ _ v u Q I rx ry ⟨i, j, rfl, rfl, oc_val h (.int _) (by simp)⟩
    case str.str i j =>
      cases ra.str; cases rb.str
      simp only [bin] at h
      split at h
      · rename_i hl
        exact op_add_str pins s σ H _ _ v u Q I rx ry ⟨i, j, rfl, rfl, ll_line hl, oc_val h (.str _) (by simp)⟩
      · exact h.elim
    case lst.lst i j =>
      obtain ⟨p, xs, rfl, r1, t1⟩ := ra.lst
      obtain ⟨q, ys, rfl, r2, t2⟩ := rb.lst
      simp only [bin] at h
      split at h
      · rename_i hl
        exact catL pins s σ H _ _ v u Q I rx ry ⟨p, q, xs, ys, rfl, rfl, r1, r2, ll_line (by rw [t1.length, t2.length]; exact hl), oc_new h dm (t1.append t2)⟩
      · exact h.elim
    case tup.tup i j =>
      obtain ⟨p, xs, rfl, r1, k1, t1⟩ := ra.tupK
      obtain ⟨q, ys, rfl, r2, k2, t2⟩ := rb.tupK
      simp only [bin] at h
      split at h
      · rename_i hl
        refine op_catA pins s σ H _ _ v u Q I rx ry ⟨p, q, xs, ys, rfl, rfl, r1, r2, ll_line (by rw [t1.length, t2.length]; exact hl), fun e => ?_, fun _ e => ?_, fun _ _ => oc_tup h (t1.append t2)⟩
        · subst e; cases t1
          exact oc_val h (.tup r2 k2 t2) (by simp)
        · subst e; cases t2
          exact oc_val h (.tup r1 (by simpa using k1) (by simpa using t1)) (by simp)
      · exact h.elim
  | sub =>
    cases a <;> cases b <;> try exact h.elim
    case int.int i j =>
      cases ra.int; cases rb.int
      exact op_sub pins s σ H _ _ v u Q I rx ry ⟨i, j, rfl, rfl, oc_val h (.int _) (by simp)⟩
  | mul =>
    cases a <;> cases b <;> try exact h.elim
    case int.int i j =>
      cases ra.int; cases rb.int
      simp only [bin] at h
      split at h
      · rename_i hm
        obtain ⟨t, rfl⟩ := rx
        obtain ⟨t', rfl⟩ := ry
        exact mul_int ⟨.int _, H, I.tok _, ⟨_, rfl⟩, oc_val h (.int _) (by simp)⟩ hm.ok
      · exact h.elim
    case tup.int l k =>
      obtain ⟨p, xs, rfl, r1, k1, t1⟩ := ra.tupK
      cases rb.int
      simp only [bin] at h
      split at h
      · rename_i hl
        refine repT pins s σ H _ _ v u Q I rx ry ⟨p, k, xs, rfl, rfl, r1, fun z => ?_, hl.2.2.1, hl.2.1, by rw [t1.length]; exact hl.1.2, fun e => ?_, fun e => oc_tup h (t1.rep k.toNat)⟩
        · have := t1.length
          rw [z] at this
          have := hl.1.1
          simp at *
          omega
        · have e2 : dRep l k.toNat = l := by rw [e]; simp [dRep]
          rw [e2] at h
          exact h (.ref p) F H Ext.refl (VD.of (.tup r1 k1 t1) (by simp))
      · exact h.elim
    case lst.int i j =>
      obtain ⟨p, xs, rfl, r1, t1⟩ := ra.lst
      cases rb.int
      simp only [bin] at h
      split at h
      · rename_i hm
        obtain ⟨h1, h2, h3⟩ := hm
        exact repL pins s σ H _ _ v u Q I rx ry ⟨p, j, xs, rfl, rfl, r1, by omega, by omega, ll_line (by rw [t1.length]; exact h1), oc_new h dm (t1.rep _)⟩
      · exact h.elim
  | fdv =>
    cases a <;> cases b <;> try exact h.elim
    case int.int i j =>
      cases ra.int; cases rb.int
      simp only [bin] at h
      split at h
      · rename_i hm
        obtain ⟨t, rfl⟩ := rx
        obtain ⟨t', rfl⟩ := ry
        exact floordiv_int hm.1 ⟨.int _, H, I.tok _, ⟨_, rfl⟩, oc_val h (.int _) (by simp)⟩ (.inl (PyProof.noPylong_of_log2 hm.2))
      · exact h.elim
  | mod =>
    cases a <;> cases b <;> try exact h.elim
    case int.int i j =>
      cases ra.int; cases rb.int
      simp only [bin] at h
      split at h
      · rename_i hm
        exact op_modN pins s σ H _ _ v u Q I rx ry ⟨i, j, rfl, rfl, hm, oc_val h (.int _) (by simp)⟩
      · exact h.elim
  | pow =>
    cases a <;> cases b <;> try exact h.elim
    case int.int i j =>
      cases ra.int; cases rb.int
      simp only [bin] at h
      split at h
      · rename_i hm
        exact op_pow pins s σ H _ _ v u Q I rx ry ⟨i, j, rfl, rfl, ⟨hm.1, by have := hm.2.1; omega, hm.2.2⟩, oc_val h (.int _) (by simp)⟩
      · exact h.elim
/-! ### comparisons -/
mutual
theorem dp_of {K : PySem.W.Frag} {F : Addr → Prop} {H : Hp} : ∀ {m : Nat} {v : V} {d : D}, eqOk m d = true → Rep K F H v d → Dp K H v d.py
  | _, _, _, _, .non => .non
  | _, _, _, _, .bl b => .bl b
  | _, _, _, _, .int i => .int i
  | _, _, _, _, .str x => .str x
  | 0, _, _, h, .lst _ _ => by simp [eqOk] at h
  | 0, _, _, h, .tup _ _ _ => by simp [eqOk] at h
  | m + 1, _, _, e, .lst h r => .lst h.sq (dps_of (m := m) (by simpa [eqOk] using e) r)
  | m + 1, _, _, e, .tup h _ r => .tup h (dps_of (m := m) (by simpa [eqOk] using e) r)
  | m, _, _, e, .dK _ _ _ _ => by cases m <;> simp [eqOk] at e
  | m, _, _, e, .dT _ _ _ _ => by cases m <;> simp [eqOk] at e
theorem dps_of {K : PySem.W.Frag} {F : Addr → Prop} {H : Hp} : ∀ {m : Nat} {v : List V} {d : List D}, (∀ x ∈ d, eqOk m x = true) → Reps K F H v d → DpAll K H v (pys d)
  | _, _, _, _, .nil => .nil
  | _, _, _, e, .cons h r => .cons (dp_of (e _ List.mem_cons_self) h) (dps_of (fun x hx => e x (List.mem_cons_of_mem _ hx)) r)
end
theorem dp_x {K : PySem.W.Frag} {F : Addr → Prop} {H : Hp} {m : Nat} {v : V} {d : D} (e : eqOk m d = true) (h : RepX K F H v d) : Dp K H v d.py := by
  rcases h with h | ⟨a, xs, ds, rfl, rfl, h3, h4⟩
  · exact dp_of e h
  · cases m with
    | zero => simp [eqOk] at e
    | succ m => exact .lst (.inl (.inl h3)) (dps_of (m := m) (by simpa [eqOk] using e) h4)
end
end Rv
/-! Tuples of ints in order: by values, by data. -/
namespace Rv
open PySem PySem.Spec PyProof.Rows L2
theorem lexI_asym : ∀ {x y : List Int}, lexI x y = true → lexI y x = false
  | [], [], h => by cases h
  | [], _ :: _, _ => rfl
  | _ :: _, [], h => by cases h
  | a :: r, b :: s, h => by
    simp only [lexI] at h ⊢
    by_cases e : a = b
    · rw [if_pos e] at h
      rw [if_pos e.symm]
      exact lexI_asym h
    · rw [if_neg e] at h
      rw [if_neg (Ne.symm e)]
      have := of_decide_eq_true h
      exact decide_eq_false (by omega)
theorem lexI_tr : ∀ {x y z : List Int}, lexI x y = false → lexI y z = false → lexI x z = false
  | [], _, [], _, _ => rfl
  | _ :: _, _, [], _, _ => rfl
  | [], [], _ :: _, _, h => by cases h
  | [], _ :: _, _ :: _, h, _ => by cases h
  | _ :: _, [], _ :: _, _, h => by cases h
  | a :: r, b :: s, c :: t, h1, h2 => by
    simp only [lexI] at h1 h2 ⊢
    by_cases e : a = b
    · rw [if_pos e] at h1
      by_cases e2 : b = c
      · rw [if_pos e2] at h2
        rw [if_pos (e.trans e2)]
        exact lexI_tr h1 h2
      · rw [if_neg e2] at h2
        rw [if_neg (by omega)]
        have := of_decide_eq_false h2
        exact decide_eq_false (by omega)
    · rw [if_neg e] at h1
      have g1 := of_decide_eq_false h1
      by_cases e2 : b = c
      · rw [if_neg (by omega)]
        exact decide_eq_false (by omega)
      · rw [if_neg e2] at h2
        have g2 := of_decide_eq_false h2
        rw [if_neg (by omega)]
        exact decide_eq_false (by omega)
theorem lexI_eq : ∀ {x y : List Int}, lexI x y = false → lexI y x = false → x = y
  | [], [], _, _ => rfl
  | [], _ :: _, h, _ => by cases h
  | _ :: _, [], _, h => by cases h
  | a :: r, b :: s, h1, h2 => by
    simp only [lexI] at h1 h2
    by_cases e : a = b
    · subst e
      rw [if_pos rfl] at h1 h2
      rw [lexI_eq h1 h2]
    · rw [if_neg e] at h1
      rw [if_neg (Ne.symm e)] at h2
      have g1 := of_decide_eq_false h1
      have g2 := of_decide_eq_false h2
      omega
theorem lexI_irrefl (x : List Int) : lexI x x = false := by
  cases h : lexI x x with
  | false => rfl
  | true => rw [lexI_asym h] at h; cases h
theorem swo_lexI {α : Type} (k : α → List Int) : SrtO.Swo fun v u => lexI (k v) (k u) := ⟨fun x y h => lexI_asym h, fun x y z h1 h2 => lexI_tr h2 h1⟩
/-- the list in order, by insertion -/
abbrev LexS (l : List (List Int)) : Prop := l.Pairwise fun x y => lexI y x = false
theorem insL_perm (x : List Int) : ∀ l, (insL x l).Perm (x :: l)
  | [] => List.Perm.refl _
  | y :: r => by
    unfold insL
    split
    · exact ((insL_perm x r).cons y).trans (List.Perm.swap x y r)
    · exact List.Perm.refl _
theorem srtL_perm : ∀ l, (srtL l).Perm l
  | [] => List.Perm.refl _
  | x :: r => (insL_perm x (srtL r)).trans ((srtL_perm r).cons x)
theorem insL_srt (x : List Int) : ∀ {l}, LexS l → LexS (insL x l)
  | [], _ => by simp [insL, LexS]
  | y :: r, h => by
    unfold insL
    obtain ⟨h1, h2⟩ := List.pairwise_cons.mp h
    split
    · rename_i q
      refine List.pairwise_cons.mpr ⟨fun z hz => ?_, insL_srt x h2⟩
      rcases List.mem_cons.mp ((insL_perm x r).mem_iff.mp hz) with rfl | hz
      · exact lexI_asym q
      · exact h1 z hz
    · rename_i q
      have q : lexI y x = false := by cases e : lexI y x <;> simp_all
      refine List.pairwise_cons.mpr ⟨fun z hz => ?_, h⟩
      rcases List.mem_cons.mp hz with rfl | hz
      · exact q
      · exact lexI_tr (h1 z hz) q
theorem srtL_srt : ∀ l, LexS (srtL l)
  | [] => List.Pairwise.nil
  | x :: r => insL_srt x (srtL_srt r)
/-- what is in order is so in one way -/
theorem lexS_uniq {l m : List (List Int)} (hl : LexS l) (hm : LexS m) (p : l.Perm m) : l = m :=
  p.eq_of_pairwise (fun a b _ _ h1 h2 => lexI_eq h2 h1) hl hm
theorem lexS_srt {l m : List (List Int)} (hl : LexS l) (p : l.Perm m) : l = srtL m := lexS_uniq hl (srtL_srt m) (p.trans (srtL_perm m).symm)
theorem insI_perm (x : Int) : ∀ l, (insI x l).Perm (x :: l)
  | [] => List.Perm.refl _
  | y :: r => by
    unfold insI
    split
    · exact ((insI_perm x r).cons y).trans (List.Perm.swap x y r)
    · exact List.Perm.refl _
theorem srtI_perm : ∀ l, (srtI l).Perm l
  | [] => List.Perm.refl _
  | x :: r => (insI_perm x (srtI r)).trans ((srtI_perm r).cons x)
theorem insI_srt (x : Int) : ∀ {l : List Int}, l.Pairwise (· ≤ ·) → (insI x l).Pairwise (· ≤ ·)
  | [], _ => by simp [insI]
  | y :: r, h => by
    unfold insI
    obtain ⟨h1, h2⟩ := List.pairwise_cons.mp h
    split
    · rename_i q
      refine List.pairwise_cons.mpr ⟨fun z hz => ?_, insI_srt x h2⟩
      rcases List.mem_cons.mp ((insI_perm x r).mem_iff.mp hz) with rfl | hz
      · omega
      · exact h1 z hz
    · refine List.pairwise_cons.mpr ⟨fun z hz => ?_, h⟩
      rcases List.mem_cons.mp hz with rfl | hz
      · omega
      · have := h1 z hz; omega
theorem srtI_srt : ∀ l, (srtI l).Pairwise (· ≤ ·)
  | [] => List.Pairwise.nil
  | x :: r => insI_srt x (srtI_srt r)
theorem srtI_uniq {l m : List Int} (hl : l.Pairwise (· ≤ ·)) (p : l.Perm m) : l = srtI m :=
  (p.trans (srtI_perm m).symm).eq_of_pairwise (fun a b _ _ h1 h2 => Int.le_antisymm h1 h2) hl (srtI_srt m)
/-! ### the model's comparison -/
section
variable {prog : Program} {w : World} {A : Around} {E : Value → Shared → Prop} {s : Shared}
theorem kat_ints {b fin : Bool} {Q : Bool → Shared → Prop} {xs ys : List Value} {ns ms : List Int} (i : Nat) (hx : IntsAre xs ns) (hy : IntsAre ys ms) (hf : fin = decide (ns.length < ms.length)) (h : Q (lexI ns ms) s) :
    PySem.W.KatLex prog w A b fin Q (xs.zip ys) i s := by
  induction hx generalizing ys ms i with
  | nil =>
    cases hy with
    | nil => subst hf; exact PySem.W.kat_nil h
    | cons q u hy => subst hf; exact PySem.W.kat_nil (by simpa [lexI] using h)
  | @cons p t xs ns hx ih =>
    cases hy with
    | nil => subst hf; exact PySem.W.kat_nil (by simpa [lexI] using h)
    | @cons q u ys ms hy =>
      refine PySem.W.kat_cons (wpAny_eqBool_int (PySem.W.kat_go (fun e => PySem.W.kat_yes ?_) fun e => PySem.W.kat_no (TS.oneLt_ints _ ?_)))
      · have e2 : p = q := by simpa using e
        refine ih (i + 1) hy (by rw [hf]; simp) ?_
        simpa [lexI, e2] using h
      · have e2 : ¬ p = q := by simpa using e
        simpa [lexI, e2] using h
/-- every value is a tuple of ints, none empty -/
def TupsI (h : Heap) (vs : List Value) : Prop := ∀ v ∈ vs, ∃ ns, TS.TupInts h v ns ∧ ns ≠ []
theorem TupsI.keeps {h h' : Heap} {vs : List Value} (x : TupsI h vs) (k : ∀ b o, h.get? b = some o → o.cls = .type "tuple" → h'.get? b = some o) : TupsI h' vs := fun v hv => by
  obtain ⟨ns, t, r⟩ := x v hv
  exact ⟨ns, t.keeps k, r⟩
theorem tups_firsts {h : Heap} : ∀ vs : List Value, TupsI h vs → ∃ fs, PySem.W.KatTups h vs fs ∧ fs.length = vs.length ∧ ∀ f ∈ fs, ∃ n t, f = Value.int n t
  | [], _ => ⟨[], .nil, rfl, fun f hf => by cases hf⟩
  | v :: vs, x => by
    obtain ⟨fs, k, hl, hi⟩ := tups_firsts vs fun u hu => x u (List.mem_cons_of_mem _ hu)
    obtain ⟨ns, ⟨a, its, rfl, ⟨o, ho, hc, n, hd⟩, hi2⟩, hne⟩ := x v List.mem_cons_self
    cases ns with
    | nil => exact absurd rfl hne
    | cons m ns =>
      obtain ⟨lst⟩ := its
      cases hi2 with
      | @cons _ t us _ hi3 =>
        refine ⟨.int m t :: fs, .cons ho hc hd ?_ k, by rw [List.length_cons, List.length_cons, hl], fun f hf => ?_⟩
        · simp
        · rcases List.mem_cons.mp hf with rfl | hf
          · exact ⟨m, t, rfl⟩
          · exact hi f hf
theorem tups_sortable {a : Addr} {vs : List Value} {k : Value → List Int} (h2 : 0 < vs.length) (hk : ∀ v ∈ vs, TS.TupInts s.heap v (k v)) (hne : ∀ v ∈ vs, k v ≠ []) (ha : ∀ o, s.heap.get? a = some o → o.cls ≠ .type "tuple") :
    SrtO.SortableO prog w A s a vs fun v u => lexI (k v) (k u) := by
  intro h' keep
  have kp : ∀ b o, s.heap.get? b = some o → o.cls = .type "tuple" → h'.get? b = some o := fun b o e c => keep b o (fun z => by subst z; exact ha o e c) e
  have hk' : ∀ v ∈ vs, TS.TupInts h' v (k v) := fun v hv => (hk v hv).keeps kp
  obtain ⟨fs, f1, f2, f3⟩ := tups_firsts (h := h') vs fun v hv => ⟨_, hk' v hv, hne v hv⟩
  refine ⟨tuples' true, fun Q E hq => PySem.W.kat_kind (T := .type "int") f1 (by omega) (fun f hf => ?_) rfl ?_, fun p q hp hq => ?_⟩
  · obtain ⟨m, t, rfl⟩ := f3 f hf
    exact PySem.W.Looks.of_pure rfl
  · have e : (Value.type "int" != Value.type "tuple") = true := by first | decide +kernel | rfl | decide
    rw [e]; exact hq
  · obtain ⟨x1, i1, e1, ⟨o1, g1, c1, n1, d1⟩, j1⟩ := hk' _ hp
    obtain ⟨x2, i2, e2, ⟨o2, g2, c2, n2, d2⟩, j2⟩ := hk' _ hq
    show wpAny (model prog w) A (keyLt' (tuples' true) p.1 q.1) (fun r s' => s' = _ ∧ r = lexI (k p.1) (k q.1)) (fun _ _ => False) _
    generalize k p.1 = np at j1 ⊢
    generalize k q.1 = nq at j2 ⊢
    rw [e1, e2]
    refine PySem.W.kat_lt g1 d1 g2 d2 (kat_ints 0 j1 j2 ?_ ⟨rfl, rfl⟩)
    rw [← j1.length, ← j2.length, Array.length_toList, Array.length_toList]
theorem tupInts_uniq {h : Heap} {v : Value} {a b : List Int} (x : TS.TupInts h v a) (y : TS.TupInts h v b) : a = b := x.ints.symm.trans y.ints
end
/-! ### by values -/
def IsK (K : PySem.W.Frag) (H : Hp) (x : V) (ns : List Int) : Prop := TupI K H x ns ∧ ns ≠ []
/-- a list in order, as the rules hand it over -/
def Ord (K : PySem.W.Frag) (H : Hp) (ys xs : List V) : Prop := ys.Perm xs ∧ ys.Pairwise fun x y => ∀ n m, TupI K H x n → TupI K H y m → lexI m n = false
theorem ord_of {X : Cx} {pins : List (Addr × Obj)} {σ : L2.St} {H : Hp} {s : Shared} (I : Inv X pins σ H s) {xs : List V} {its out : List Value} (e1 : xs = its.map bkV) (e2 : ∀ u ∈ its, ∃ a, u = Value.ref a) (hp : out.Perm its)
    (hs : out.Pairwise fun v u => lexI (TS.intsOf s.heap u) (TS.intsOf s.heap v) = false) : Ord X.K H (out.map bkV) xs ∧ Vals (out.map bkV) out := by
  have e3 : ∀ u ∈ out, ∃ a, u = Value.ref a := fun u hu => e2 u (hp.mem_iff.mp hu)
  refine ⟨⟨by rw [e1]; exact hp.map bkV, ?_⟩, bkV_vals e3⟩
  rw [List.pairwise_map]
  refine List.Pairwise.imp_of_mem (fun {u v} hu hv h n m hn hm => ?_) hs
  obtain ⟨a, rfl⟩ := e3 u hu
  obtain ⟨b, rfl⟩ := e3 v hv
  obtain ⟨_, q1, t1⟩ := hn
  obtain ⟨_, q2, t2⟩ := hm
  cases q1; cases q2
  rw [(tupI_raw I t1).ints, (tupI_raw I t2).ints] at h
  exact h
section
variable {X : Cx}
theorem tups_raw {pins : List (Addr × Obj)} {σ : L2.St} {H : Hp} {s : Shared} (I : Inv X pins σ H s) {xs : List V} {its : List Value} (e1 : xs = its.map bkV) (e2 : ∀ u ∈ its, ∃ a, u = Value.ref a) (hx : ∀ x ∈ xs, ∃ ns, IsK X.K H x ns) :
    ∀ v ∈ its, TS.TupInts s.heap v (TS.intsOf s.heap v) ∧ TS.intsOf s.heap v ≠ [] := fun v hv => by
  obtain ⟨a, rfl⟩ := e2 v hv
  obtain ⟨ns, ⟨t, e, ht⟩, hne⟩ := hx (V.ref a) (by rw [e1]; exact List.mem_map.mpr ⟨_, hv, rfl⟩)
  cases e
  have r := tupI_raw I ht
  rw [r.ints]
  exact ⟨r, hne⟩
/-- sorted(xs), tuples of ints, any number of them -/
def rSrtT (K : PySem.W.Frag) : List V → Hp → VK → Prop := fun vs H Q => ∃ (a : Addr) (xs : List V), vs = [V.ref a] ∧ SqL K H a xs ∧ (∀ x ∈ xs, ∃ ns, IsK K H x ns) ∧ ∀ ys p, Ord K H ys xs → H p = none → Q (.ref p) (upd H p (.lst ys))
theorem cr_srtT : CallR X (.builtin "sorted") (rSrtT X.K) := by
  intro pins s σ H vs us Q I r h
  obtain ⟨a, xs, rfl, hs, hx, q⟩ := h
  obtain ⟨its, rv, hl, hz⟩ := I.list hs
  rw [Vals.ref1 r]
  obtain ⟨e1, e2⟩ := bkV_refs rv fun x hm => by
    obtain ⟨ns, ⟨t, e, _⟩, _⟩ := hx x hm
    exact ⟨t, e⟩
  have raw := tups_raw I e1 e2 hx
  refine SrtO.sorted_ord (swo_lexI (TS.intsOf s.heap)) hl.isList (by rw [← rv.length]; exact hz) (fun h2 h₁ b hb kk => ?_) fun out g1 g2 => ?_
  · refine tups_sortable (s := { s with heap := h₁ }) (by omega) (fun v hv => (raw v hv).1.keeps fun c o e _ => (kk c o e).2) (fun v hv => (raw v hv).2) fun o e => ?_
    rw [hb] at e
    cases e
    intro c
    exact absurd (Value.type.inj c) (by decide)
  · obtain ⟨o1, o2⟩ := ord_of I e1 e2 g2.perm g1
    obtain ⟨ep, he⟩ := PyProof.Rows.sortedAll_at s.heap its out.toArray
    refine ⟨.ref _, upd H (s.heap.objs.size + 1) (.lst (out.map bkV)), I.laid (t' := s.toks) (fun _ _ => PyProof.Rows.sortedAll_old) (Nat.le_succ _) ⟨?_, out, ep, o2, he⟩, rfl, q _ _ o1 (I.hok.fresh (Nat.le_succ _))⟩
    rw [o1.1.length_eq]; exact hz
/-- sorted(d), the keys tuples of ints, any number of them -/
def rSrtD (K : PySem.W.Frag) : List V → Hp → VK → Prop := fun vs H Q => ∃ (a : Addr) (kvs : List (List Key × V)) (ns : List (List Int)), vs = [V.ref a] ∧ H a = some (.dT kvs) ∧ kvs.map (·.1) = ns.map (fun k => k.map Sum.inl) ∧ (∀ x ∈ ns, x ≠ []) ∧
  ∀ xs ys p, Paired (fun n x => ∃ t, x = V.ref t ∧ H t = some (.tup (n.map V.int))) ns xs → Ord K H ys xs → H p = none → Q (.ref p) (upd H p (.lst ys))
theorem keys_paired {H : Hp} : ∀ {kvs : List (List Key × V)} {bs : List Addr} {ns : List (List Int)}, IsKeys H kvs bs → kvs.map (·.1) = ns.map (fun k => k.map Sum.inl) → Paired (fun n x => ∃ t, x = V.ref t ∧ H t = some (.tup (n.map V.int))) ns (bs.map V.ref)
  | [], _, [], .nil, _ => .nil
  | [], _, _ :: _, .nil, h => by cases h
  | _ :: _, _, [], .cons _ _, h => by cases h
  | kv :: kvs, b :: bs, n :: ns, .cons h t, e => by
    rw [List.map_cons, List.map_cons] at e
    have e1 := (List.cons.inj e).1
    refine .cons ⟨b, rfl, ?_⟩ (keys_paired t (List.cons.inj e).2)
    rw [h, e1, List.map_map]
    rfl
theorem paired_mem {α β : Type} {P : α → β → Prop} : ∀ {xs : List α} {ys : List β}, Paired P xs ys → ∀ y ∈ ys, ∃ x ∈ xs, P x y
  | _, _, .nil, y, h => by cases h
  | _, _, .cons h t, y, hy => by
    rcases List.mem_cons.mp hy with rfl | hy
    · exact ⟨_, List.mem_cons_self, h⟩
    · obtain ⟨x, hx, hp⟩ := paired_mem t y hy
      exact ⟨x, List.mem_cons_of_mem _ hx, hp⟩
theorem refs_bk (bs : List Addr) : bs.map V.ref = (bs.map Value.ref).map bkV := by rw [List.map_map]; rfl
theorem cr_srtD (hc : X.calm = true) : CallR X (.builtin "sorted") (rSrtD X.K) := by
  intro pins s σ H vs us Q I r h
  obtain ⟨d, kvs, ns, rfl, hd, hkn, hne, q⟩ := h
  rw [Vals.ref1 r]
  obtain ⟨z, hs, ks, pr, o, es, ep, ho, hx, hdt, he, hn⟩ := (show ObjOk X.prog X.w H s.heap d (.dT kvs) from I.hok d _ hd)
  have l1 : es.size = ks.length := size_of_entries he
  have l2 : kvs.length = ks.length := Paired.length pr
  have hsz : es.size ≤ sizeLine := by rw [l1, ← l2]; exact z
  let bs : List Addr := ks.map fun x => x.2.1
  have hkeys : IsKeys H kvs bs := isKeys_of pr
  have pk := keys_paired hkeys hkn
  refine Calls.call_function_entry PyProof.Rows.kind_sorted PyProof.Rows.plain_sorted PyProof.Rows.entry_sorted (PyProof.Rows.args_sorted1 _) ?_
  unfold Builtin.«sorted»
  refine wpAny_bind (m := checkCount "sorted" 1 1 _) (wpAny_pure ?_)
  refine wpAny_bind (PySem.W.kdu_collect (A := X.A.in1) (kdl_raw hs hx hdt) (I.ok.hd hc) ho hsz fun h' tk acc kp it => ?_)
  have ea : acc.toList = bs.map Value.ref := by
    apply List.ext_getElem?
    intro j
    rw [List.getElem?_map]
    cases hj : acc.toList[j]? with
    | none =>
      have g := List.getElem?_eq_none_iff.mp hj
      rw [Array.length_toList, it.1, l1] at g
      rw [List.getElem?_eq_none (show bs.length ≤ j by rw [List.length_map]; exact g)]
      rfl
    | some v =>
      obtain ⟨en, g1, g2⟩ := it.2 j v (by rw [← Array.getElem?_toList]; exact hj)
      have g3 := entry_at he j
      rw [g1] at g3
      cases g4 : ks[j]? with
      | none => rw [g4] at g3; cases g3
      | some b =>
        rw [g4] at g3
        have g5 : en = entryOfKey (tupleKind (mixKind X.prog X.w)) b := Option.some.inj g3
        rw [show bs[j]? = some b.2.1 by rw [List.getElem?_map, g4]; rfl, g2, g5]
        rfl
  have I1 : Inv X pins σ H { s with heap := h', toks := tk } := I.kept kp
  have e1 : bs.map V.ref = acc.toList.map bkV := by rw [ea]; exact refs_bk bs
  have e2 : ∀ u ∈ acc.toList, ∃ a, u = Value.ref a := fun u hu => by
    rw [ea] at hu
    obtain ⟨a, _, rfl⟩ := List.mem_map.mp hu
    exact ⟨a, rfl⟩
  have hxs : ∀ x ∈ bs.map V.ref, ∃ n, IsK X.K H x n := fun x hx => by
    obtain ⟨n, hn1, t, e, ht⟩ := paired_mem pk x hx
    exact ⟨n, ⟨t, e, .inl (.inl ht)⟩, hne n hn1⟩
  have hal : acc.toList.length ≤ sizeLine := by rw [Array.length_toList, it.1]; exact hsz
  refine wpAny_bind (wpAny_newList ?_ hal)
  have hoL : (h'.push (seqObj "list" acc.toList.toArray 0)).get? h'.objs.size = some (seqObj "list" acc.toList.toArray 0) := Heap.get?_push_size _ rfl
  have I2 : Inv X pins σ H { s with heap := h'.push (seqObj "list" acc.toList.toArray 0), toks := tk } := I1.kept (t' := tk) fun b ob e => Heap.get?_push_of_some _ e
  have raw := tups_raw I2 e1 e2 hxs
  show wpAny _ _ _ _ _ { s with heap := h'.push (seqObj "list" acc.toList.toArray 0), toks := tk }
  refine wpAny_bind (wpAny_holding (wpAny_call_entry PyProof.Rows.slot_list_sort ⟨_, hoL, rfl⟩ PyProof.Rows.entry_list_sort
    (SrtO.list_sort_ord (swo_lexI (TS.intsOf (h'.push (seqObj "list" acc.toList.toArray 0)))) hoL hal (fun g2 => ?_) fun out g1 g2 => ⟨_, rfl, ?_⟩) (PyProof.Rows.args_list_sort _)))
  · refine tups_sortable (by omega) (fun v hv => (raw v hv).1) (fun v hv => (raw v hv).2) fun o e => ?_
    have e' : some o = some (seqObj "list" acc.toList.toArray 0) := e.symm.trans hoL
    cases e'
    intro c
    exact absurd (Value.type.inj c) (by decide)
  · obtain ⟨o1, o2⟩ := ord_of I2 e1 e2 g2.perm g1
    obtain ⟨e', he'⟩ := PyProof.Rows.sortedHeap_at (vs := acc.toList) (out := out.toArray) hoL
    refine wpAny_pure ⟨_, rfl, .ref h'.objs.size, upd H h'.objs.size (.lst (out.map bkV)), I1.laid (t' := tk) (fun b u e => ?_) (Nat.le_refl _) ⟨?_, out, e', o2, he'⟩, rfl, q _ _ _ pk o1 (I1.hok.fresh (Nat.le_refl _))⟩
    · have hlt := Heap.lt_size e
      rw [PyProof.Rows.sortedHeap_old (Nat.ne_of_lt hlt) (by rw [PyProof.Rows.size_push']; exact Nat.lt_succ_of_lt hlt)]
      exact Heap.get?_push_of_some _ e
    · rw [o1.1.length_eq, e1, List.length_map]; exact hal
end
/-! ### by data -/
section
variable {K : PySem.W.Frag} {F : Addr → Prop} {H : Hp}
theorem ints_reps : ∀ {xs : List V} {ds : List D} {ns : List Int}, Reps K F H xs ds → intsOf ds = some ns → xs = ns.map V.int ∧ ds = ns.map D.int
  | _, [], ns, r, h => by cases r; cases h; exact ⟨rfl, rfl⟩
  | _, d :: l, ns, r, h => by
    cases r with
    | cons r t =>
      cases d <;> try (cases h; done)
      cases r
      simp only [intsOf, Option.map_eq_some_iff] at h
      obtain ⟨ms, h1, rfl⟩ := h
      obtain ⟨e1, e2⟩ := ints_reps t h1
      rw [e1, e2]; exact ⟨rfl, rfl⟩
theorem tups_reps : ∀ {xs : List V} {ds : List D} {ns : List (List Int)}, Reps K F H xs ds → tupsOf ds = some ns → ds = ns.map tupD ∧ Paired (fun n x => TupI K H x n) ns xs
  | _, [], ns, r, h => by cases r; cases h; exact ⟨rfl, .nil⟩
  | _, d :: l, ns, r, h => by
    cases r with
    | cons r t =>
      cases d <;> try (cases h; done)
      rename_i es
      simp only [tupsOf] at h
      cases e : intsOf es with
      | none => rw [e] at h; cases h
      | some n =>
        rw [e] at h
        simp only [Option.map_eq_some_iff] at h
        obtain ⟨ms, h1, rfl⟩ := h
        obtain ⟨e1, e2⟩ := tups_reps t h1
        cases r with
        | tup hq _ rr =>
          obtain ⟨e3, e4⟩ := ints_reps rr e
          subst e3 e4
          exact ⟨by rw [e1]; rfl, .cons ⟨_, rfl, hq⟩ e2⟩
/-- the same in another order -/
theorem reps_perm {ys xs : List V} (p : ys.Perm xs) : ∀ {ds : List D}, Reps K F H xs ds → ∃ es, es.Perm ds ∧ Reps K F H ys es := by
  induction p with
  | nil => exact fun r => ⟨_, List.Perm.refl _, r⟩
  | cons x p ih =>
    intro ds r
    cases r with
    | cons h t =>
      obtain ⟨es, h1, h2⟩ := ih t
      exact ⟨_, h1.cons _, .cons h h2⟩
  | swap x y l =>
    intro ds r
    cases r with
    | cons h t =>
      cases t with
      | cons h2 t => exact ⟨_, List.Perm.swap _ _ _, .cons h2 (.cons h t)⟩
  | trans p q ih1 ih2 =>
    intro ds r
    obtain ⟨es, h1, h2⟩ := ih2 r
    obtain ⟨fs, h3, h4⟩ := ih1 h2
    exact ⟨fs, h3.trans h1, h4⟩
theorem tupD_inj : ∀ {a b : List Int}, tupD a = tupD b → a = b := fun {a b} h => by
  have h : a.map D.int = b.map D.int := D.tup.inj h
  exact List.map_inj_right (fun x y e => D.int.inj e) |>.mp h
theorem map_tupD {ns : List (List Int)} : ∀ {es : List D}, (∀ e ∈ es, e ∈ ns.map tupD) → ∃ ms : List (List Int), es = ms.map tupD
  | [], _ => ⟨[], rfl⟩
  | e :: es, h => by
    obtain ⟨n, _, e1⟩ := List.mem_map.mp (h e List.mem_cons_self)
    obtain ⟨ms, e2⟩ := map_tupD (es := es) fun x hx => h x (List.mem_cons_of_mem _ hx)
    exact ⟨n :: ms, by rw [e2, ← e1]; rfl⟩
theorem tupsOf_map : ∀ ns : List (List Int), tupsOf (ns.map tupD) = some ns
  | [] => rfl
  | n :: ns => by
    have h : ∀ n : List Int, intsOf (n.map D.int) = some n := fun n => by
      induction n with
      | nil => rfl
      | cons a n ih => simp only [List.map_cons, intsOf, ih]; rfl
    simp only [List.map_cons, tupD, tupsOf, h, tupsOf_map ns]
    rfl
theorem sameLen_ne {ns : List (List Int)} (h : sameLen ns = true) : ∀ n ∈ ns, n ≠ [] := by
  cases ns with
  | nil => intro n hn; cases hn
  | cons x r =>
    simp only [sameLen, Bool.and_eq_true, decide_eq_true_eq, List.all_eq_true, beq_iff_eq] at h
    intro n hn e
    subst e
    rcases List.mem_cons.mp hn with e | hn
    · rw [← e] at h; exact absurd h.1 (by decide)
    · have := h.2 _ hn
      simp at this
      omega
theorem tups_each {ns : List (List Int)} {xs : List V} (pr : Paired (fun n x => TupI K H x n) ns xs) (h : sameLen ns = true) (x : V) (hx : x ∈ xs) : ∃ n, IsK K H x n := by
  obtain ⟨n, hn, ht⟩ := paired_mem pr x hx
  exact ⟨n, ht, sameLen_ne h n hn⟩
def untD : D → List Int
  | .tup l => (intsOf l).getD []
  | _ => []
theorem untD_tup (n : List Int) : untD (tupD n) = n := by
  have h : intsOf (n.map D.int) = some n := by
    induction n with
    | nil => rfl
    | cons a n ih => simp only [List.map_cons, intsOf, ih]; rfl
  show (intsOf (n.map D.int)).getD [] = n
  rw [h]; rfl
theorem pair_back {ms : List (List Int)} {ys : List V} {m : List Int} (t : Paired (fun n x => TupI K H x n) ms ys) (hm : m ∈ ms) : ∃ y ∈ ys, TupI K H y m := by
  induction t with
  | nil => cases hm
  | cons hq t ih =>
    rcases List.mem_cons.mp hm with rfl | hm
    · exact ⟨_, List.mem_cons_self, hq⟩
    · obtain ⟨y, h1, h2⟩ := ih hm
      exact ⟨y, List.mem_cons_of_mem _ h1, h2⟩
theorem ord_lexS : ∀ {ms : List (List Int)} {ys : List V}, Paired (fun n x => TupI K H x n) ms ys → (ys.Pairwise fun x y => ∀ n m, TupI K H x n → TupI K H y m → lexI m n = false) → LexS ms
  | _, _, .nil, _ => List.Pairwise.nil
  | _, _, .cons hq t, h => by
    obtain ⟨g1, g2⟩ := List.pairwise_cons.mp h
    refine List.pairwise_cons.mpr ⟨fun m hm => ?_, ord_lexS t g2⟩
    obtain ⟨y, hy, hm2⟩ := pair_back t hm
    exact g1 y hy _ _ hq hm2
/-- in order, by data -/
theorem ord_reps {xs ys : List V} {ns : List (List Int)} (r : Reps K F H xs (ns.map tupD)) (o : Ord K H ys xs) : Reps K F H ys ((srtL ns).map tupD) := by
  obtain ⟨es, h1, h2⟩ := reps_perm o.1 r
  obtain ⟨ms, rfl⟩ := map_tupD (ns := ns) fun e he => h1.mem_iff.mp he
  obtain ⟨_, pm⟩ := tups_reps h2 (tupsOf_map ms)
  have hp : ms.Perm ns := by
    have := h1.map untD
    rw [List.map_map, List.map_map, show untD ∘ tupD = id from funext untD_tup, List.map_id, List.map_id] at this
    exact this
  rw [← lexS_srt (ord_lexS pm o.2) hp]
  exact h2
end
end Rv
/-! Comparisons, places, slices, built-ins, by data. -/
namespace Rv
open PySem PySem.Spec PyProof.Rows L2
mutual
theorem canLay_ok : ∀ (n : Nat) (d : D), eqOk n d = true → d.py.canLay0 = true
  | _, .non, _ => rfl
  | _, .bl _, _ => rfl
  | _, .int _, _ => rfl
  | n, .str s, h => by
    have h' : PyData.strOk s = true := by cases n <;> exact h
    simpa [D.py, PyData.canLay0] using h'
  | 0, .lst l, h => by cases h
  | 0, .tup l, h => by cases h
  | n + 1, .lst l, h => by
    have h' : l.all (eqOk n) = true := h
    simpa [D.py, PyData.canLay0] using canLays_ok n l h'
  | n + 1, .tup l, h => by
    have h' : l.all (eqOk n) = true := h
    simpa [D.py, PyData.canLay0] using canLays_ok n l h'
  | n, .dK _, h => by cases n <;> cases h
  | n, .dT _, h => by cases n <;> cases h
  | n, .exc _, h => by cases n <;> cases h
theorem canLays_ok : ∀ (n : Nat) (l : List D), l.all (eqOk n) = true → PyData.canLayAll0 (pys l) = true
  | _, [], _ => rfl
  | n, d :: l, h => by
    simp only [List.all_cons, Bool.and_eq_true] at h
    simp only [pys, PyData.canLayAll0, canLay_ok n d h.1, canLays_ok n l h.2, Bool.and_self]
end
mutual
theorem depth_ok : ∀ (n : Nat) (d : D), eqOk n d = true → d.py.depth ≤ n
  | _, .non, _ => Nat.zero_le _
  | _, .bl _, _ => Nat.zero_le _
  | _, .int _, _ => Nat.zero_le _
  | n, .str s, h => Nat.zero_le _
  | 0, .lst l, h => by cases h
  | 0, .tup l, h => by cases h
  | n + 1, .lst l, h => by
    have h' : l.all (eqOk n) = true := h
    have q := depths_ok n l h'
    simp only [D.py, PyData.depth]; omega
  | n + 1, .tup l, h => by
    have h' : l.all (eqOk n) = true := h
    have q := depths_ok n l h'
    simp only [D.py, PyData.depth]; omega
  | n, .dK _, h => by cases n <;> cases h
  | n, .dT _, h => by cases n <;> cases h
  | n, .exc _, h => by cases n <;> cases h
theorem depths_ok : ∀ (n : Nat) (l : List D), l.all (eqOk n) = true → PyData.depthAll (pys l) ≤ n
  | _, [], _ => Nat.zero_le _
  | n, d :: l, h => by
    simp only [List.all_cons, Bool.and_eq_true] at h
    have h1 := depth_ok n d h.1
    have h2 := depths_ok n l h.2
    simp only [pys, PyData.depthAll]; omega
end
theorem shaped_ok {d : D} (h : eqOk 12 d = true) : SeqAt.shaped d.py = true := by
  unfold SeqAt.shaped
  rw [canLay_ok 12 d h, decide_eq_true (Nat.le_trans (depth_ok 12 d h) (by decide))]
  rfl
section
variable {X : Cx}
def cOf : Co → CmpOp
  | .eq => .Eq | .ne => .NotEq | .lt => .Lt | .le => .LtE | .gt => .Gt | .ge => .GtE | .isn => .Is | .ntn => .IsNot
theorem lexLt_eq : ∀ a b : List Int, HT.lexLt a b = lexI a b
  | [], [] => rfl
  | [], _ :: _ => rfl
  | _ :: _, [] => rfl
  | a :: r, b :: s => by
    rw [HT.lexLt_cons, lexLt_eq r s]
    rfl
theorem op_cmp {fr : Bool} (hu : X.A.units + 64 < cLine) (o : Co) : OpR X (compareOp (cOf o)) (rBin X.K fr fun a b => ofB (cmpV o a b)) := by
  intro pins s σ H x y v u Q I rx ry ⟨F, a, b, dm, ra, rb, h⟩
  cases o with
  | eq =>
    simp only [cmpV] at h
    split at h
    · rename_i hd
      obtain ⟨h1, h2⟩ := Bool.and_eq_true_iff.mp hd
      exact op_eqD hu pins s σ H x y v u Q I rx ry ⟨_, _, dp_x h1 ra, dp_x h2 rb, shaped_ok h1, shaped_ok h2, oc_val h (.bl _) (by simp)⟩
    · exact h.elim
  | ne =>
    simp only [cmpV] at h
    split at h
    · rename_i hd
      obtain ⟨h1, h2⟩ := Bool.and_eq_true_iff.mp hd
      exact op_neD hu pins s σ H x y v u Q I rx ry ⟨_, _, dp_x h1 ra, dp_x h2 rb, shaped_ok h1, shaped_ok h2, oc_val h (.bl _) (by simp)⟩
    · exact h.elim
  | lt =>
    cases a <;> cases b <;> try exact h.elim
    case int.int =>
      cases ra.int; cases rb.int
      exact op_lt pins s σ H _ _ v u Q I rx ry ⟨_, _, rfl, rfl, oc_val h (.bl _) (by simp)⟩
    case tup.tup l m =>
      obtain ⟨p, xs, rfl, r1, t1⟩ := ra.tup
      obtain ⟨q, ys, rfl, r2, t2⟩ := rb.tup
      simp only [cmpV] at h
      cases e1 : intsOf l with
      | none => rw [e1] at h; exact h.elim
      | some ns =>
      cases e2 : intsOf m with
      | none => rw [e1, e2] at h; exact h.elim
      | some ms =>
      rw [e1, e2] at h
      dsimp only at h
      split at h
      · obtain ⟨g1, _⟩ := ints_reps t1 e1
        obtain ⟨g2, _⟩ := ints_reps t2 e2
        subst g1 g2
        exact op_ltT (by omega) pins s σ H _ _ v u Q I rx ry ⟨p, q, ns, ms, rfl, rfl, r1, r2, by rw [lexLt_eq]; exact oc_val h (.bl _) (by simp)⟩
      · exact h.elim
  | le =>
    cases a <;> cases b <;> try exact h.elim
    cases ra.int; cases rb.int
    exact op_le pins s σ H _ _ v u Q I rx ry ⟨_, _, rfl, rfl, oc_val h (.bl _) (by simp)⟩
  | gt =>
    cases a <;> cases b <;> try exact h.elim
    cases ra.int; cases rb.int
    exact op_gt pins s σ H _ _ v u Q I rx ry ⟨_, _, rfl, rfl, oc_val h (.bl _) (by simp)⟩
  | ge =>
    cases a <;> cases b <;> try exact h.elim
    cases ra.int; cases rb.int
    exact op_ge pins s σ H _ _ v u Q I rx ry ⟨_, _, rfl, rfl, oc_val h (.bl _) (by simp)⟩
  | isn =>
    cases a <;> cases b <;> try exact h.elim
    all_goals
      cases rb.non
      refine op_isN pins s σ H _ _ v u Q I rx ry ⟨rfl, ?_⟩
    · cases ra.non; exact oc_val h (.bl _) (by simp)
    · cases ra.bl; exact oc_val h (.bl _) (by simp)
    · cases ra.int; exact oc_val h (.bl _) (by simp)
    · cases ra.str; exact oc_val h (.bl _) (by simp)
    · obtain ⟨p, xs, rfl, _, _⟩ := ra.lst; exact oc_val h (.bl _) (by simp)
    · obtain ⟨p, xs, rfl, _, _⟩ := ra.tup; exact oc_val h (.bl _) (by simp)
  | ntn =>
    cases a <;> cases b <;> try exact h.elim
    all_goals
      cases rb.non
      refine op_notN pins s σ H _ _ v u Q I rx ry ⟨rfl, ?_⟩
    · cases ra.non; exact oc_val h (.bl _) (by simp)
    · cases ra.bl; exact oc_val h (.bl _) (by simp)
    · cases ra.int; exact oc_val h (.bl _) (by simp)
    · cases ra.str; exact oc_val h (.bl _) (by simp)
    · obtain ⟨p, xs, rfl, _, _⟩ := ra.lst; exact oc_val h (.bl _) (by simp)
    · obtain ⟨p, xs, rfl, _, _⟩ := ra.tup; exact oc_val h (.bl _) (by simp)
/-! ### places -/
theorem atI_rep {K : PySem.W.Frag} {F : Addr → Prop} {H : Hp} {xs : List V} {ds : List D} (r : Reps K F H xs ds) {i : Int} {d : D} (h : atI ds i = some d) : ∃ v, atI xs i = some v ∧ Rep K F H v d := by
  unfold atI at h ⊢
  rw [r.length]
  cases e : ixN ds.length i with
  | none => rw [e] at h; cases h
  | some j =>
    rw [e] at h
    exact r.get h
theorem oc_rep {K : PySem.W.Frag} {F : Addr → Prop} {H : Hp} {Q : VK} {d : D} {v : V} (h : Oc (rV K false) noW F H Q (.ok d)) (r : Rep K F H v d) : Q v H := h v F H Ext.refl r
theorem ix_data : IxR X (rBin X.K false idxV) := by
  intro value slice pins s σ H x y v u Q I rx ry ⟨F, a, b, dm, ra, rb, h⟩ hs
  cases a <;> cases b <;> try exact h.elim
  case lst.int l i =>
    obtain ⟨p, xs, rfl, r1, t1⟩ := ra.lst
    cases rb.int
    simp only [idxV, ixD] at h
    split at h
    · rename_i d e
      obtain ⟨z, e2, r2⟩ := atI_rep t1 e
      exact ix_list value slice pins s σ H _ _ v u Q I rx ry ⟨p, xs, i, z, rfl, rfl, r1, e2, oc_rep h r2⟩ hs
    · exact h.elim
  case tup.int l i =>
    obtain ⟨p, xs, rfl, r1, t1⟩ := ra.tup
    cases rb.int
    simp only [idxV, ixD] at h
    split at h
    · rename_i d e
      obtain ⟨z, e2, r2⟩ := atI_rep t1 e
      exact ix_tup value slice pins s σ H _ _ v u Q I rx ry ⟨p, xs, i, z, rfl, rfl, r1, e2, oc_rep h r2⟩ hs
    · exact h.elim
def rSlc (K : PySem.W.Frag) : V → Option Int → Option Int → Hp → VK → Prop := fun x lo hi H Q => ∃ F a, Dom F H ∧ RepX K F H x a ∧ Oc (rV K true) noW F H Q (slcV a lo hi)
theorem cut_whole {xs : List V} {lo hi : Option Int} (h : HT.sIx xs.length 0 lo = 0 ∧ HT.sIx xs.length xs.length hi = xs.length) : cutV xs lo hi = xs := by
  unfold cutV
  rw [h.1, h.2]
  simp
theorem sl_data : SlR X (rSlc X.K) := by
  intro pins s σ H x v vl vu lo hi sl Q I rx hs pl pu ⟨F, a, dm, ra, h⟩
  cases a <;> try exact h.elim
  case lst l =>
    obtain ⟨p, xs, rfl, r1, t1⟩ := ra.lst
    exact sl_list pins s σ H _ v vl vu lo hi sl Q I rx hs pl pu ⟨p, xs, rfl, r1, oc_new h dm (t1.cut lo hi)⟩
  case tup l =>
    obtain ⟨p, xs, rfl, r1, k1, t1⟩ := ra.tupK
    refine sl_tupA pins s σ H _ v vl vu lo hi sl Q I rx hs pl pu ⟨p, xs, rfl, r1, fun e => ?_, fun _ => oc_tup h (t1.cut lo hi)⟩
    have t2 := t1.cut lo hi
    have ln := t2.length
    rw [cut_whole e] at t2 ln
    have e3 : cutD l lo hi = l := by
      unfold cutD
      rw [t1.length] at e
      rw [e.1, e.2]
      simp
    refine oc_val h (.tup r1 (fun z => k1 (by rw [e3] at z; exact z)) t2) (by simp)
theorem un_data {fr : Bool} : UnR X (unaryOp .USub) (fun x H Q => ∃ F a, Dom F H ∧ RepX X.K F H x a ∧ Oc (rV X.K fr) noW F H Q (ofInt (.ok a) fun i => .ok (.int (-i)))) := by
  intro pins s σ H x v Q I rx ⟨F, a, dm, ra, h⟩
  cases a <;> try exact h.elim
  cases ra.int
  exact un_neg pins s σ H _ v Q I rx ⟨_, rfl, oc_val h (.int _) (by simp)⟩
/-! ### built-ins -/
def rBfn (K : PySem.W.Frag) (b : Bf) : List V → Hp → VK → Prop := fun xs H Q => ∃ F ds, Dom F H ∧ RepsX K F H xs ds ∧ Oc (rV K true) noW F H Q (bfn b ds)
theorem RepsX.one {K : PySem.W.Frag} {F : Addr → Prop} {H : Hp} {xs : List V} {d : D} (h : RepsX K F H xs [d]) : ∃ x, xs = [x] ∧ RepX K F H x d := by
  cases h with
  | cons h t => cases t; exact ⟨_, rfl, h⟩
theorem RepsX.two {K : PySem.W.Frag} {F : Addr → Prop} {H : Hp} {xs : List V} {d e : D} (h : RepsX K F H xs [d, e]) : ∃ x y, xs = [x, y] ∧ RepX K F H x d ∧ RepX K F H y e := by
  cases h with
  | cons h t =>
    obtain ⟨y, rfl, r⟩ := t.one
    exact ⟨_, _, rfl, h, r⟩
theorem ints_rep {K : PySem.W.Frag} {F : Addr → Prop} {H : Hp} : ∀ {xs : List V} {ds : List D} {ns : List Int}, Reps K F H xs ds → intsOf ds = some ns → xs = ns.map V.int
  | _, [], ns, r, h => by cases r; cases h; rfl
  | _, d :: l, ns, r, h => by
    cases r with
    | cons r t =>
      cases d <;> try (cases h; done)
      cases r
      simp only [intsOf, Option.map_eq_some_iff] at h
      obtain ⟨ms, h1, rfl⟩ := h
      rw [ints_rep t h1]; rfl
theorem bls_rep {K : PySem.W.Frag} {F : Addr → Prop} {H : Hp} : ∀ {xs : List V} {ds : List D} {ns : List Bool}, Reps K F H xs ds → blsOf ds = some ns → xs = ns.map V.bl
  | _, [], ns, r, h => by cases r; cases h; rfl
  | _, d :: l, ns, r, h => by
    cases r with
    | cons r t =>
      cases d <;> try (cases h; done)
      cases r
      simp only [blsOf, Option.map_eq_some_iff] at h
      obtain ⟨ms, h1, rfl⟩ := h
      rw [bls_rep t h1]; rfl
theorem cr_repr : CallR X (.builtin "repr") (fun xs H Q => ∃ b, xs = [.bl b] ∧ Q (.str (reprB b)) H) := by
  intro pins s σ H xs us Q I r ⟨b, e, q⟩
  subst e
  obtain ⟨u, e, ru⟩ := vals1 r
  subst e
  cases ru
  refine PySem.P.repr_of_bool ⟨.str (reprB b), H, I.tok _, ⟨s.toks, ?_⟩, q⟩
  cases b <;> rfl
/-- what a built-in's name stands for -/
def bfVal : Bf → Value
  | .len => .builtin "len" | .abs => .builtin "abs" | .int => .type "int" | .min2 => .builtin "min" | .max2 => .builtin "max" | .sum => .builtin "sum"
  | .all => .builtin "all" | .any => .builtin "any" | .tuple => .type "tuple" | .list => .type "list" | .repr => .builtin "repr"
  | .min1 => .builtin "min" | .max1 => .builtin "max" | .sorted => .builtin "sorted"
theorem leastI_eq {m : Int} : ∀ {i : Int} {r : List Int}, m ∈ i :: r → (∀ y ∈ i :: r, m ≤ y) → leastI i r = m
  | i, [], h, _ => by simp at h; exact h.symm
  | i, j :: r, h1, h2 => by
    show leastI (if j < i then j else i) r = m
    have a := h2 i List.mem_cons_self
    have b := h2 j (List.mem_cons_of_mem _ List.mem_cons_self)
    refine leastI_eq ?_ fun y hy => ?_
    · rcases List.mem_cons.mp h1 with rfl | h1
      · rw [if_neg (by omega)]; exact List.mem_cons_self
      · rcases List.mem_cons.mp h1 with rfl | h1
        · split
          · exact List.mem_cons_self
          · have : m = i := by omega
            rw [this]; exact List.mem_cons_self
        · exact List.mem_cons_of_mem _ h1
    · rcases List.mem_cons.mp hy with rfl | hy
      · split <;> assumption
      · exact h2 y (List.mem_cons_of_mem _ (List.mem_cons_of_mem _ hy))
theorem mostI_eq {m : Int} : ∀ {i : Int} {r : List Int}, m ∈ i :: r → (∀ y ∈ i :: r, y ≤ m) → mostI i r = m
  | i, [], h, _ => by simp at h; exact h.symm
  | i, j :: r, h1, h2 => by
    show mostI (if j > i then j else i) r = m
    have a := h2 i List.mem_cons_self
    have b := h2 j (List.mem_cons_of_mem _ List.mem_cons_self)
    refine mostI_eq ?_ fun y hy => ?_
    · rcases List.mem_cons.mp h1 with rfl | h1
      · rw [if_neg (by omega)]; exact List.mem_cons_self
      · rcases List.mem_cons.mp h1 with rfl | h1
        · split
          · exact List.mem_cons_self
          · have : m = i := by omega
            rw [this]; exact List.mem_cons_self
        · exact List.mem_cons_of_mem _ h1
    · rcases List.mem_cons.mp hy with rfl | hy
      · split <;> assumption
      · exact h2 y (List.mem_cons_of_mem _ (List.mem_cons_of_mem _ hy))
/-- the least of a tuple of ints -/
theorem cr_minT (hc : X.calm = true) : CallR X (.builtin "min") (fun vs H Q => ∃ (a : Addr) (ns : List Int), vs = [V.ref a] ∧ SqT X.K H a (ns.map V.int) ∧ 0 < ns.length ∧ ∀ m, m ∈ ns → (∀ y, y ∈ ns → m ≤ y) → Q (.int m) H) := by
  intro pins s σ H vs us Q I r h
  obtain ⟨a, ns, rfl, hs, hne, q⟩ := h
  obtain ⟨its, rv, ht, _⟩ := I.tuple hs
  rw [Vals.ref1 r]
  obtain ⟨xs, e⟩ := rv.ints.allInts.items
  have hn : numsOf (intItems xs).toList = ns := by rw [← e]; exact rv.ints.numsOf
  rw [nums_intItems] at hn
  subst hn
  rw [e] at ht
  have hsz : 0 < xs.size := by simpa using hne
  obtain ⟨o, ho, _⟩ := id ht
  have ne : a ≠ s.heap.objs.size := Nat.ne_of_lt (Heap.lt_size ho)
  refine PySem.call_min_walk (wpAny_pyIter_tuple ht ⟨s.heap.objs.size, _, _, _, _, _, fun i j => decide (numAt xs i < numAt xs j), rfl, Walks.tuple (A := X.A.in1) (I.ok.hd hc) _ a ne (intItems xs), ⟨⟨_, Heap.get?_push_size _ rfl, rfl, rfl⟩, ht.push _⟩, fun b hb => ?_, by simpa [intItems] using hsz, CmpOf.ints_lt (numAt xs) (fun _ _ => intItems_at), fun v h' tk hP hk => ?_⟩)
  · show b < (s.heap.push _).objs.size
    rw [Heap.size_push]
    rcases List.mem_cons.mp hb with rfl | hb
    · exact Nat.lt_succ_self _
    · rcases List.mem_cons.mp hb with rfl | hb
      · exact Nat.lt_succ_of_lt (Heap.lt_size ho)
      · cases hb
  · obtain ⟨t, rfl⟩ := intItems_at hP
    obtain ⟨g1, g2⟩ := argBest_lt (numAt xs) (xs.size - 1)
    have sz : (intItems xs).size = xs.size := by simp [intItems]
    rw [sz]
    refine ⟨.int _, H, I.kept (t' := tk) (fun b ob hb => hk b ob (fun hm => ?_) (Heap.get?_push_of_some _ hb)), ⟨t, rfl⟩, q _ ?_ fun y hy => ?_⟩
    · rcases List.mem_cons.mp hm with e1 | hm
      · exact absurd (e1 ▸ Heap.lt_size hb) (Nat.lt_irrefl _)
      · cases hm
    · rw [numAt_eq]; exact PySem.getD_mem (by rw [List.length_map, Array.length_toList]; omega)
    · obtain ⟨j, hj, rfl⟩ := mem_getD hy
      rw [List.length_map, Array.length_toList] at hj
      rw [← numAt_eq]; exact g2 j (by omega)
/-- the sum of a tuple of ints -/
theorem cr_sumT (hc : X.calm = true) : CallR X (.builtin "sum") (fun vs H Q => ∃ (a : Addr) (ns : List Int), vs = [V.ref a] ∧ SqT X.K H a (ns.map V.int) ∧ Q (.int ns.sum) H) := by
  intro pins s σ H vs us Q I r h
  obtain ⟨a, ns, rfl, hs, q⟩ := h
  obtain ⟨its, rv, ht, _⟩ := I.tuple hs
  rw [Vals.ref1 r]
  obtain ⟨xs, e⟩ := rv.ints.allInts.items
  have hn : numsOf (intItems xs).toList = ns := by rw [← e]; exact rv.ints.numsOf
  rw [nums_intItems] at hn
  subst hn
  rw [e] at ht
  obtain ⟨o, ho, _⟩ := id ht
  have ne : a ≠ s.heap.objs.size := Nat.ne_of_lt (Heap.lt_size ho)
  refine PySem.call_sum_walkG (wpAny_pyIter_tuple ht ⟨s.heap.objs.size, _, _, _, _, _, numAt xs, rfl, Walks.tuple (A := X.A.in1) (I.ok.hd hc) _ a ne (intItems xs), ⟨⟨_, Heap.get?_push_size _ rfl, rfl, rfl⟩, ht.push _⟩, fun b hb => ?_, (fun _ _ => intItems_at), fun h' tk t' hk => ?_⟩)
  · show b < (s.heap.push _).objs.size
    rw [Heap.size_push]
    rcases List.mem_cons.mp hb with rfl | hb
    · exact Nat.lt_succ_self _
    · rcases List.mem_cons.mp hb with rfl | hb
      · exact Nat.lt_succ_of_lt (Heap.lt_size ho)
      · cases hb
  · have sz : (intItems xs).size = xs.size := by simp [intItems]
    rw [sz, preSum_eq, List.take_of_length_le (by simp)]
    refine ⟨.int _, H, I.kept (t' := tk) (fun b ob hb => hk b ob (fun hm => ?_) (Heap.get?_push_of_some _ hb)), ⟨_, rfl⟩, q⟩
    rcases List.mem_cons.mp hm with e1 | hm
    · exact absurd (e1 ▸ Heap.lt_size hb) (Nat.lt_irrefl _)
    · cases hm
theorem bfn_data (hc : X.calm = true) (b : Bf) : CallR X (bfVal b) (rBfn X.K b) := by
  intro pins s σ H xs us Q I r ⟨F, ds, dm, rs, h⟩
  cases b with
  | len =>
    rcases ds with _ | ⟨d, _ | ⟨e, l⟩⟩
    · exact h.elim
    · obtain ⟨x, rfl, rx⟩ := rs.one
      cases d <;> try exact h.elim
      case lst l =>
        obtain ⟨p, ys, rfl, r1, t1⟩ := rx.lst
        exact call_len_seq pins s σ H _ us Q I r ⟨p, ys, rfl, .inl (r1), by rw [t1.length]; exact oc_val h (.int _) (by simp)⟩
      case tup l =>
        obtain ⟨p, ys, rfl, r1, t1⟩ := rx.tup
        exact call_len_seq pins s σ H _ us Q I r ⟨p, ys, rfl, .inr r1, by rw [t1.length]; exact oc_val h (.int _) (by simp)⟩
    · cases d <;> exact h.elim
  | abs =>
    rcases ds with _ | ⟨d, _ | ⟨e, l⟩⟩
    · exact h.elim
    · obtain ⟨x, rfl, rx⟩ := rs.one
      cases d <;> try exact h.elim
      cases rx.int
      exact call_abs pins s σ H _ us Q I r ⟨_, rfl, oc_val h (.int _) (by simp)⟩
    · cases d <;> exact h.elim
  | int =>
    rcases ds with _ | ⟨d, _ | ⟨e, l⟩⟩
    · exact h.elim
    · obtain ⟨x, rfl, rx⟩ := rs.one
      cases d <;> try exact h.elim
      · cases rx.bl
        exact call_int1 pins s σ H _ us Q I r (.inr ⟨_, rfl, oc_val h (.int _) (by simp)⟩)
      · cases rx.int
        exact call_int1 pins s σ H _ us Q I r (.inl ⟨_, rfl, oc_val h (.int _) (by simp)⟩)
    · cases d <;> exact h.elim
  | min2 =>
    rcases ds with _ | ⟨d, _ | ⟨e, _ | ⟨f, l⟩⟩⟩
    · exact h.elim
    · cases d <;> exact h.elim
    · obtain ⟨x, y, rfl, rx, ry⟩ := rs.two
      cases d <;> try exact h.elim
      cases e <;> try exact h.elim
      cases rx.int; cases ry.int
      exact call_min2 hc pins s σ H _ us Q I r ⟨_, _, rfl, oc_val h (.int _) (by simp)⟩
    · cases d <;> try exact h.elim
      cases e <;> exact h.elim
  | max2 =>
    rcases ds with _ | ⟨d, _ | ⟨e, _ | ⟨f, l⟩⟩⟩
    · exact h.elim
    · cases d <;> exact h.elim
    · obtain ⟨x, y, rfl, rx, ry⟩ := rs.two
      cases d <;> try exact h.elim
      cases e <;> try exact h.elim
      cases rx.int; cases ry.int
      exact call_max2 hc pins s σ H _ us Q I r ⟨_, _, rfl, oc_val h (.int _) (by simp)⟩
    · cases d <;> try exact h.elim
      cases e <;> exact h.elim
  | sum =>
    rcases ds with _ | ⟨d, _ | ⟨e, l⟩⟩
    · exact h.elim
    · obtain ⟨x, rfl, rx⟩ := rs.one
      cases d <;> try exact h.elim
      case lst l =>
        obtain ⟨p, ys, rfl, r1, t1⟩ := rx.lst
        simp only [bfn] at h
        split at h
        · rename_i ns e
          have e1 := ints_rep t1 e
          subst e1
          exact cr_sum hc pins s σ H _ us Q I r ⟨p, ns, rfl, r1, oc_val h (.int _) (by simp)⟩
        · exact h.elim
      case tup l =>
        obtain ⟨p, ys, rfl, r1, t1⟩ := rx.tup
        simp only [bfn] at h
        split at h
        · rename_i ns e
          have e1 := ints_rep t1 e
          subst e1
          exact cr_sumT hc pins s σ H _ us Q I r ⟨p, ns, rfl, r1, oc_val h (.int _) (by simp)⟩
        · exact h.elim
    · cases d <;> exact h.elim
  | all =>
    rcases ds with _ | ⟨d, _ | ⟨e, l⟩⟩
    · exact h.elim
    · obtain ⟨x, rfl, rx⟩ := rs.one
      cases d <;> try exact h.elim
      case lst l =>
        obtain ⟨p, ys, rfl, r1, t1⟩ := rx.lst
        simp only [bfn] at h
        split at h
        · rename_i ns e
          have e1 := bls_rep t1 e
          subst e1
          exact cr_all hc pins s σ H _ us Q I r ⟨p, ns, rfl, r1, oc_val h (.bl _) (by simp)⟩
        · exact h.elim
    · cases d <;> exact h.elim
  | any =>
    rcases ds with _ | ⟨d, _ | ⟨e, l⟩⟩
    · exact h.elim
    · obtain ⟨x, rfl, rx⟩ := rs.one
      cases d <;> try exact h.elim
      case lst l =>
        obtain ⟨p, ys, rfl, r1, t1⟩ := rx.lst
        simp only [bfn] at h
        split at h
        · rename_i ns e
          have e1 := bls_rep t1 e
          subst e1
          exact cr_any hc pins s σ H _ us Q I r ⟨p, ns, rfl, r1, oc_val h (.bl _) (by simp)⟩
        · exact h.elim
    · cases d <;> exact h.elim
  | tuple =>
    rcases ds with _ | ⟨d, _ | ⟨e, l⟩⟩
    · exact h.elim
    · obtain ⟨x, rfl, rx⟩ := rs.one
      cases d <;> try exact h.elim
      case lst l =>
        obtain ⟨p, ys, rfl, r1, t1⟩ := rx.lst
        exact call_tuple_of pins s σ H _ us Q I r ⟨p, ys, rfl, .inl ⟨r1, oc_tup h t1⟩⟩
      case tup l =>
        obtain ⟨p, ys, rfl, r1, k1, t1⟩ := rx.tupK
        exact call_tuple_of pins s σ H _ us Q I r ⟨p, ys, rfl, .inr ⟨r1, oc_val h (.tup r1 k1 t1) (by simp)⟩⟩
    · cases d <;> exact h.elim
  | list =>
    rcases ds with _ | ⟨d, _ | ⟨e, l⟩⟩
    · exact h.elim
    · obtain ⟨x, rfl, rx⟩ := rs.one
      cases d <;> try exact h.elim
      case lst l =>
        obtain ⟨p, ys, rfl, r1, t1⟩ := rx.lst
        exact call_list_of pins s σ H _ us Q I r ⟨p, ys, rfl, .inl (r1), oc_new h dm t1⟩
      case tup l =>
        obtain ⟨p, ys, rfl, r1, t1⟩ := rx.tup
        exact call_list_of pins s σ H _ us Q I r ⟨p, ys, rfl, .inr r1, oc_new h dm t1⟩
    · cases d <;> exact h.elim
  | repr =>
    rcases ds with _ | ⟨d, _ | ⟨e, l⟩⟩
    · exact h.elim
    · obtain ⟨x, rfl, rx⟩ := rs.one
      cases d <;> try exact h.elim
      cases rx.bl
      exact cr_repr pins s σ H _ us Q I r ⟨_, rfl, oc_val h (.str _) (by simp)⟩
    · cases d <;> exact h.elim
  | min1 =>
    rcases ds with _ | ⟨d, _ | ⟨e, l⟩⟩
    · exact h.elim
    · obtain ⟨x, rfl, rx⟩ := rs.one
      cases d <;> try exact h.elim
      case lst l =>
        obtain ⟨p, ys, rfl, r1, t1⟩ := rx.lst
        simp only [bfn, minL] at h
        split at h
        · rename_i i ns e
          have e1 := ints_rep t1 e
          subst e1
          exact cr_min hc pins s σ H _ us Q I r ⟨p, i :: ns, rfl, r1, Nat.succ_pos _, fun m h1 h2 => by rw [leastI_eq h1 h2] at h; exact oc_val h (.int _) (by simp)⟩
        · exact h.elim
      case tup l =>
        obtain ⟨p, ys, rfl, r1, t1⟩ := rx.tup
        simp only [bfn, minL] at h
        split at h
        · rename_i i ns e
          have e1 := ints_rep t1 e
          subst e1
          exact cr_minT hc pins s σ H _ us Q I r ⟨p, i :: ns, rfl, r1, Nat.succ_pos _, fun m h1 h2 => by rw [leastI_eq h1 h2] at h; exact oc_val h (.int _) (by simp)⟩
        · exact h.elim
    · cases d <;> exact h.elim
  | max1 =>
    rcases ds with _ | ⟨d, _ | ⟨e, l⟩⟩
    · exact h.elim
    · obtain ⟨x, rfl, rx⟩ := rs.one
      cases d <;> try exact h.elim
      case lst l =>
        obtain ⟨p, ys, rfl, r1, t1⟩ := rx.lst
        simp only [bfn, maxL] at h
        split at h
        · rename_i i ns e
          have e1 := ints_rep t1 e
          subst e1
          exact cr_max hc pins s σ H _ us Q I r ⟨p, i :: ns, rfl, r1, Nat.succ_pos _, fun m h1 h2 => by rw [mostI_eq h1 h2] at h; exact oc_val h (.int _) (by simp)⟩
        · exact h.elim
    · cases d <;> exact h.elim
  | sorted =>
    rcases ds with _ | ⟨d, _ | ⟨e, l⟩⟩
    · exact h.elim
    · obtain ⟨x, rfl, rx⟩ := rs.one
      cases d <;> try exact h.elim
      case lst l =>
        obtain ⟨p, ys, rfl, r1, t1⟩ := rx.lst
        simp only [bfn, srtT] at h
        split at h
        · rename_i ns e
          split at h
          · rename_i hsame
            obtain ⟨e1, pr⟩ := tups_reps t1 e
            subst e1
            exact cr_srtT pins s σ H _ us Q I r ⟨p, ys, rfl, r1, fun x hx => tups_each pr hsame x hx, fun zs p ho hp => oc_new h dm (ord_reps t1 ho) p hp⟩
          · exact h.elim
        · exact h.elim
    · cases d <;> exact h.elim
/-! ### isinstance -/
def tyV : Ty → String
  | .int => "int" | .bool => "bool" | .str => "str" | .tuple => "tuple" | .list => "list"
def tyD : D → Option String
  | .non => some "NoneType" | .bl _ => some "bool" | .int _ => some "int" | .str _ => some "str" | .lst _ => some "list" | .tup _ => some "tuple" | _ => none
theorem tyX_of {K : PySem.W.Frag} {F : Addr → Prop} {H : Hp} {v : V} {d : D} {t : String} (r : Rep K F H v d) (h : tyD d = some t) : TyX K H v (.type t) := by
  cases r with
  | non => cases h; exact .base .non
  | bl b => cases h; exact .base (.bl b)
  | int i => cases h; exact .base (.int i)
  | str s => cases h; exact .base (.str s)
  | lst r1 t1 =>
    cases h
    rcases r1 with ⟨_, r1⟩ | ⟨o, r1⟩ | ⟨o, its, n, e, c, _⟩
    · exact .base (.lst r1)
    · exact .base (.frz r1)
    · exact .kList e c
  | tup r1 t1 =>
    cases h
    rcases r1 with (r1 | ⟨o, r1⟩) | ⟨o, its, n, e, c, _⟩
    · exact .base (.tup r1)
    · exact .fTuple r1
    · exact .kTuple e c
  | dK _ _ _ _ => cases h
  | dT _ _ _ _ => cases h
theorem kit_tab (a : String) (ha : a ∈ ["NoneType", "bool", "int", "str", "list", "tuple"]) (t : Ty) : kitB a (tyV t) = some (a == tyV t || (a == "bool" && t == .int)) := by
  simp only [List.mem_cons, List.not_mem_nil, or_false] at ha
  rcases ha with rfl | rfl | rfl | rfl | rfl | rfl <;> cases t <;> decide +kernel
theorem tyIs_ok {d : D} {t : Ty} {b : Bool} (h : tyIs t d = .ok b) : ∃ a, tyD d = some a ∧ a ∈ ["NoneType", "bool", "int", "str", "list", "tuple"] ∧ (a == tyV t || (a == "bool" && t == .int)) = b := by
  cases d <;> cases t <;> (first | (cases h; done) | (cases h; exact ⟨_, rfl, by decide, by decide⟩))
theorem isi_one {K : PySem.W.Frag} {F : Addr → Prop} {H : Hp} {v : V} {d : D} {t : Ty} {b : Bool} (r : Rep K F H v d) (h : tyIs t d = .ok b) : ∃ a, TyX K H v (.type a) ∧ PySem.W.kitOne K (.type a) (.type (tyV t)) = some b := by
  obtain ⟨a, h1, h2, h3⟩ := tyIs_ok h
  exact ⟨a, tyX_of r h1, kit_ty (by rw [kit_tab a h2 t, h3])⟩
theorem isi_any {K : PySem.W.Frag} {a : String} {d : D} (hd : tyD d = some a) : ∀ {ts : List Ty} {b : Bool}, anyTy ts d = .ok b → PySem.W.kitAny K (.type a) (ts.map fun t => Value.type (tyV t)) = some b
  | [], b, h => by cases h; exact kitAny_nil
  | t :: ts, b, h => by
    simp only [anyTy] at h
    cases e : tyIs t d with
    | ok k =>
      rw [e] at h
      obtain ⟨a', h1, h2, h3⟩ := tyIs_ok e
      rw [hd] at h1; cases h1
      refine kitAny_cons (b := k) (kit_ty (by rw [kit_tab a h2 t, h3])) (fun hk => ?_) fun hk => ?_
      · subst hk
        exact isi_any hd (by simpa using h)
      · subst hk
        have : R.ok true = R.ok b := by simpa using h
        cases this; rfl
    | exc c => rw [e] at h; cases h
    | stk => rw [e] at h; cases h
end
theorem stT_len {α : Type} (l : List α) (c : Int) : (stT l c).length ≤ l.length := by
  unfold stT
  refine Nat.le_trans (List.length_filterMap_le _ _) ?_
  rw [List.length_range]
  unfold Builtin.Slice.slicePlaces
  by_cases h : c < 0
  · simp only [h, if_true, show ¬ c > 0 by omega, if_false]
    split
    · rename_i h2
      have : ((l.length : Int) - 1 - -1 - 1) / (-c) ≤ (l.length : Int) - 1 := Int.ediv_le_of_le_mul (by omega) (by
        have h3 : 0 ≤ ((l.length : Int) - 1) * (-c - 1) := Int.mul_nonneg (by omega) (by omega)
        have e : ((l.length : Int) - 1) * (-c - 1) = ((l.length : Int) - 1) * (-c) - ((l.length : Int) - 1) := by rw [Int.mul_sub, Int.mul_one]
        omega)
      omega
    · omega
  · simp only [h, if_false]
    split
    · rename_i h2
      split
      · rename_i h4
        have : ((l.length : Int) - 0 - 1) / c ≤ (l.length : Int) - 1 := Int.ediv_le_of_le_mul (by omega) (by
          have h3 : 0 ≤ ((l.length : Int) - 1) * (c - 1) := Int.mul_nonneg (by omega) (by omega)
          have e : ((l.length : Int) - 1) * (c - 1) = ((l.length : Int) - 1) * c - ((l.length : Int) - 1) := by rw [Int.mul_sub, Int.mul_one]
          omega)
        omega
      · omega
    · rw [if_neg (by omega)]; omega
theorem stL_len {α : Type} (l : List α) (c : Int) : (stL l c).length ≤ l.length := by
  unfold stL
  refine Nat.le_trans (List.length_filterMap_le _ _) (sliceRange_length_le _ _ _ _ (fun hc => ?_) fun hc => ?_)
  · simp only [sliceBounds, Option.getD_some] at hc ⊢
    simp only [hc, if_true]
    omega
  · simp only [sliceBounds, Option.getD_some] at hc ⊢
    simp only [hc, if_false]
    omega
section
open HT
variable {prog : Program} {w : World} {A : Around} {E : Value → Shared → Prop} {s : Shared}
theorem applied_step {sl : Addr} {vs : Value} {c : Int} {n : Nat} {Q : Int × Int × Nat → Shared → Prop} (hs : s.heap.IsSliceOf sl .none .none vs) (ps : IsPart vs (some c)) (h0 : c ≠ 0)
    (h : Q ((if c < 0 then (n : Int) - 1 else 0), c, Builtin.Slice.slicePlaces (if c < 0 then (n : Int) - 1 else 0) (if c < 0 then -1 else (n : Int)) c) s) : wpAny (model prog w) A (Builtin.Slice.sliceApplied (.ref sl) (pure (n : Int))) Q E s := by
  obtain ⟨os, hos, hcs, hds⟩ := id hs
  unfold Builtin.Slice.sliceApplied Builtin.Slice.sliceFields
  refine wpAny_bind (wpAny_bind (wpAny_field hos hds (x := .none) rfl (wpAny_bind (wpAny_field hos hds (x := .none) rfl (wpAny_bind (wpAny_field hos hds (x := vs) rfl (wpAny_pure ?_)))))))
  refine wpAny_bind (slicePart_ ps ?_)
  have e0 : (c == 0) = false := by simpa using h0
  show wpAny _ _ (if (c == 0) = true then _ else _) _ _ s
  rw [e0, if_neg Bool.false_ne_true]
  refine wpAny_bind (slicePart_none (wpAny_bind (slicePart_none (wpAny_bind (wpAny_pure (wpAny_pure ?_))))))
  by_cases hc : c < 0
  · simp only [Option.getD_some, hc, if_true] at h ⊢
    exact h
  · simp only [Option.getD_some, hc, if_false] at h ⊢
    exact h
theorem tuple_step {t sl : Addr} {items : Array Value} {vs : Value} {c : Int} {Q : Value → Shared → Prop} (ht : IsTup s.heap t items) (hs : s.heap.IsSliceOf sl .none .none vs) (ps : IsPart vs (some c)) (h0 : c ≠ 0)
    (h1 : c = 1 → Q (.ref t) s) (h2 : Q (.ref s.heap.objs.size) { s with heap := s.heap.push { cls := .type "tuple", data := .seq (stT items.toList c).toArray } })
    (hsz : items.size ≤ sizeLine) : wpAny (model prog w) A (getItem (.ref t) (.ref sl)) Q E s := by
  have hz : sizeOk (.seq (stT items.toList c).toArray) := by
    show (stT items.toList c).toArray.size ≤ sizeLine
    rw [List.size_toArray]
    have := stT_len items.toList c
    have e : items.toList.length = items.size := Array.length_toList
    omega
  obtain ⟨os, hos, hcs, hds⟩ := id hs
  have hTs : s.TypeIs (.ref sl) "slice" := ⟨os, hos, hcs⟩
  unfold getItem
  try with_reducible refine wpAny_holding ?_
  first | refine wpAny_bind (wpAny_pure ?_) | skip
  refine wpAny_bind (wpAny_sequenceKey ht.typeIs (by decide) ?_)
  refine wpAny_bind (wpAny_callSpecial?_slot (name := Str.ofString "__getitem__") ht.typeIs PyProof.Rows.slot_tuple_getitem
    (wpAny_call_entry PyProof.Rows.slot_tuple_getitem ht.typeIs entry_tuple_getitem ?_ (args_tuple_getitem _ _)))
  show wpAny _ _ (Builtin.Tuple.tupleItemsOf (.ref t) >>= _) _ _ s
  refine wpAny_bind (tupleItemsOf_ ht ?_)
  refine wpAny_bind (wpAny_typeOf hTs ?_)
  rw [if_pos (by decide)]
  refine wpAny_bind (applied_step hs ps h0 ?_)
  generalize hlo : (if c < 0 then (items.size : Int) - 1 else 0) = lo
  generalize hpl : Builtin.Slice.slicePlaces lo (if c < 0 then -1 else (items.size : Int)) c = pl
  have epick : (stT items.toList c).toArray = ((List.range pl).filterMap fun (k : Nat) => items[(lo + (k : Int) * c).toNat]?).toArray := by
    unfold stT
    rw [Array.length_toList, hlo, hpl]
    simp only [Array.getElem?_toList]
  show wpAny _ _ (if (lo == 0 && c == 1 && pl == items.size) = true then _ else _) _ _ s
  by_cases hw : (lo == 0 && c == 1 && pl == items.size) = true
  · rw [if_pos hw]
    have hc : c = 1 := by
      rw [Bool.and_eq_true, Bool.and_eq_true] at hw
      exact eq_of_beq hw.1.2
    refine wpAny_bind ?_
    show wpAny _ _ (typeOf (.ref t) >>= fun T => pure (T == .type "tuple")) _ _ s
    refine wpAny_bind (wpAny_typeOf ht.typeIs (wpAny_pure ?_))
    first
      | rw [if_pos (by decide)]
      | simp only [beq_self_eq_true, if_true]
    first
      | exact wpAny_bind (wpAny_rule (wpAny_pure ⟨_, rfl, wpAny_pure (h1 hc)⟩))
      | exact wpAny_bind (wpAny_rule (wpAny_bind (wpAny_pure (wpAny_pure ⟨_, rfl, wpAny_pure (h1 hc)⟩))))
  · rw [if_neg hw, ← epick]
    first
      | exact wpAny_bind (m := Builtin.Tuple.tupleExact _) (wpAny_newObj_type (wpAny_pure ⟨_, rfl, wpAny_pure h2⟩) hz)
      | exact wpAny_bind (m := Builtin.Tuple.tupleExact _) (wpAny_newObj_type (wpAny_bind (wpAny_pure (wpAny_pure ⟨_, rfl, wpAny_pure h2⟩))) hz)
      | exact wpAny_bind (wpAny_bind (m := Builtin.Tuple.tupleExact _) (wpAny_newObj_type (wpAny_pure (wpAny_pure ⟨_, rfl, wpAny_pure h2⟩)) hz))
      | exact wpAny_bind (wpAny_bind (m := Builtin.Tuple.tupleExact _) (wpAny_newObj_type (wpAny_pure ⟨_, rfl, wpAny_pure h2⟩) hz))
end
/-! ### xs[::c] -/
theorem Vals.pick {xs : List V} {us : List Value} (r : Vals xs us) (g : Nat → Nat) : ∀ ks : List Nat, Vals (ks.filterMap fun k => xs[g k]?) (ks.filterMap fun k => us[g k]?)
  | [] => .nil
  | k :: ks => by
    have ih := Vals.pick r g ks
    have hl := r.length
    cases e : xs[g k]? with
    | none =>
      have e2 : us[g k]? = none := by rw [List.getElem?_eq_none_iff] at e ⊢; omega
      simp only [List.filterMap_cons, e, e2]
      exact ih
    | some x =>
      obtain ⟨u, e2, r2⟩ := r.get e
      simp only [List.filterMap_cons, e, e2]
      exact .cons r2 ih
theorem Vals.stT {xs : List V} {us : List Value} (r : Vals xs us) (c : Int) : Vals (Rv.stT xs c) (Rv.stT us c) := by
  unfold Rv.stT
  rw [r.length]
  exact Vals.pick r (fun k => ((if c < 0 then (us.length : Int) - 1 else 0) + (k : Int) * c).toNat) _
theorem Vals.stL {xs : List V} {us : List Value} (r : Vals xs us) (c : Int) : Vals (Rv.stL xs c) (Rv.stL us c) := by
  unfold Rv.stL
  rw [r.length]
  exact Vals.pick r (fun k => k) _
theorem Reps.pick {K : PySem.W.Frag} {F : Addr → Prop} {H : Hp} (g : Nat → Nat) {xs : List V} {ds : List D} (r : Reps K F H xs ds) : ∀ ks : List Nat, Reps K F H (ks.filterMap fun k => xs[g k]?) (ks.filterMap fun k => ds[g k]?)
  | [] => .nil
  | k :: ks => by
    have ih := Reps.pick g r ks
    have hl := r.length
    cases e : xs[g k]? with
    | none =>
      have e2 : ds[g k]? = none := by rw [List.getElem?_eq_none_iff] at e ⊢; omega
      simp only [List.filterMap_cons, e, e2]
      exact ih
    | some x =>
      obtain ⟨d, e2, r2⟩ := r.get' e
      simp only [List.filterMap_cons, e, e2]
      exact .cons r2 ih
theorem Reps.stT {K : PySem.W.Frag} {F : Addr → Prop} {H : Hp} {xs : List V} {ds : List D} (r : Reps K F H xs ds) (c : Int) : Reps K F H (Rv.stT xs c) (Rv.stT ds c) := by
  unfold Rv.stT
  rw [r.length]
  exact r.pick (fun k => ((if c < 0 then (ds.length : Int) - 1 else 0) + (k : Int) * c).toNat) _
theorem Reps.stL {K : PySem.W.Frag} {F : Addr → Prop} {H : Hp} {xs : List V} {ds : List D} (r : Reps K F H xs ds) (c : Int) : Reps K F H (Rv.stL xs c) (Rv.stL ds c) := by
  unfold Rv.stL
  rw [r.length]
  exact r.pick (fun k => k) _
section
variable {X : Cx}
def rSlS (K : PySem.W.Frag) : V → Option Int → Hp → VK → Prop := fun x o H Q => ∃ F a, Dom F H ∧ RepX K F H x a ∧ Oc (rV K true) noW F H Q (slcSV a o)
theorem stT_one {α : Type} (l : List α) : Rv.stT l 1 = l := by
  unfold Rv.stT Builtin.Slice.slicePlaces
  simp only [show ¬ ((1 : Int) < 0) by decide, if_false, show (1 : Int) > 0 by decide, if_true]
  have e : (if (0 : Int) < (l.length : Int) then ((l.length : Int) - 0 - 1) / 1 + 1 else 0).toNat = l.length := by
    rw [Int.ediv_one]
    split <;> omega
  rw [e]
  have e2 : (fun (k : Nat) => l[(0 + (k : Int) * 1).toNat]?) = fun k => l.toArray[k]? := by
    funext k
    rw [Int.zero_add, Int.mul_one, Int.toNat_natCast]
    simp
  rw [e2]
  have := PySem.W.krv_all l.toArray
  rw [List.size_toArray] at this
  exact this
def tSlS (r : V → Option Int → Hp → VK → Prop) (te : TE) (ts : TO) : TE := fun σ H Q => te σ H fun x H1 => ts σ H1 fun o H2 => r x o H2 Q
theorem pe_slcS {e y : Expr} {te : TE} {ts : TO} {p3 pos : Pos} (he : PE X e te) (hy : PO X (some y) ts) : PE X (.Subscript e (.Slice none none (some y) p3) pos) (tSlS (rSlS X.K) te ts) := by
  refine ⟨fun pins s σ H Q I h => ?_⟩
  refine Subscript_ (thn (he.run pins s σ H _ I h) fun v s1 ⟨x, H1, I1, r1, q1⟩ => ?_)
  refine wpAny_Slice (thn (po_none.run pins s1 σ H1 (fun o H2 => o = none ∧ H2 = H1) I1 ⟨rfl, rfl⟩) fun vl s2 ⟨l, H2, I2, pl, el, e2⟩ => ?_)
  subst el e2
  refine thn (po_none.run pins s2 σ H2 (fun o H3 => o = none ∧ H3 = H2) I2 ⟨rfl, rfl⟩) fun vu s3 ⟨u, H3, I3, pu, eu, e3⟩ => ?_
  subst eu e3
  cases pl
  cases pu
  refine thn (hy.run pins s3 σ H3 _ I3 q1) fun vs s4 ⟨o, H4, I4, ps, F, a, dm, ra, hq⟩ => ?_
  have I5 : Inv X pins σ H4 { s4 with heap := s4.heap.push { cls := .type "slice", data := .fields #[.none, .none, vs] } } := I4.kept (t' := s4.toks) fun b ob q => Heap.get?_push_of_some _ q
  cases o with
  | none => cases a <;> exact hq.elim
  | some c =>
  cases a <;> try exact hq.elim
  case lst ds =>
    simp only [slcSV] at hq
    split at hq
    · rename_i c0
      obtain ⟨l, xs, rfl, hx, rr⟩ := ra.lst
      cases r1
      obtain ⟨its, r, ht, hz⟩ := I5.list hx
      have hlen := r.length
      show wpAny (model X.prog X.w) X.A (subscriptTail e (.Slice none none (some y) p3) (.ref l) (.ref s4.heap.objs.size)) (EP X pins σ Q) X.xe { s4 with heap := s4.heap.push { cls := .type "slice", data := .fields #[.none, .none, vs] } }
      refine tail_any (ops := [.ref l, .ref s4.heap.objs.size]) ht.isList.typeIs (PySem.slot_list_getitem.lookup) ?_ (by with_unfolding_all rfl)
      refine wpAny_getItem_list_slice ht.isList (Heap.IsSliceOf.new _ .none .none vs) .none .none ps (by simpa using c0) ?_ (by rw [List.size_toArray]; omega)
      have ep : slicePick its.toArray none none (some c) = (Rv.stL its c).toArray := by
        unfold slicePick Rv.stL
        rw [List.size_toArray]
        congr 1
        have : (fun i : Nat => its.toArray[i]?) = fun i => its[i]? := by funext i; simp
        rw [this]
      rw [ep]
      refine ⟨.ref _, _, I5.laid (t' := s4.toks) (o := .lst (Rv.stL xs c)) (fun b ob q => Heap.get?_push_of_some _ q) (Nat.le_refl _) ?_, rfl, oc_new hq dm (rr.stL c) _ (I5.hok.fresh (Nat.le_refl _))⟩
      exact ⟨Nat.le_trans (stL_len xs c) hz, _, 0, Vals.stL r c, Heap.get?_push_size _ rfl⟩
    · exact hq.elim
  case tup ds =>
    simp only [slcSV] at hq
    split at hq
    · rename_i c0
      obtain ⟨l, xs, rfl, hx, kx, rr⟩ := ra.tupK
      cases r1
      obtain ⟨its, r, ht, hz⟩ := I5.tuple hx
      have hlen := r.length
      show wpAny (model X.prog X.w) X.A (subscriptTail e (.Slice none none (some y) p3) (.ref l) (.ref s4.heap.objs.size)) (EP X pins σ Q) X.xe { s4 with heap := s4.heap.push { cls := .type "slice", data := .fields #[.none, .none, vs] } }
      refine tail_any (ops := [.ref l, .ref s4.heap.objs.size]) ht.typeIs (PyProof.Rows.slot_tuple_getitem.lookup) ?_ (by with_unfolding_all rfl)
      refine tuple_step ht (Heap.IsSliceOf.new _ .none .none vs) ps c0 (fun c1 => ?_) ?_ (by rw [List.size_toArray]; omega)
      · subst c1
        refine ⟨.ref _, _, I5, rfl, ?_⟩
        rw [stT_one] at hq
        exact oc_val hq (.tup hx kx rr) (by simp)
      · refine ⟨.ref _, _, I5.laid (t' := s4.toks) (o := .tup (Rv.stT xs c)) (fun b ob q => Heap.get?_push_of_some _ q) (Nat.le_refl _) ?_, rfl, oc_tup hq (rr.stT c) _ (I5.hok.fresh (Nat.le_refl _))⟩
        exact ⟨Nat.le_trans (stT_len xs c) hz, _, Vals.stT r c, IsTup.new _ _⟩
    · exact hq.elim
end
end Rv
/-! The clean syntax against the model's own; what evaluates runs. -/
namespace Rv
open PySem PySem.Spec PyProof.Rows L2
/-- a def: its number, how many parameters, the default of the last one, the name of the last one if it is given by keyword alone -/
structure FnI where
  id : Nat
  ar : Nat
  df : Option Int
  kw : Option Str
/-- the module's names: defs, constants, exception classes -/
structure Tab where
  fns : List (Str × FnI)
  cns : List (Str × Nat)
  exs : List (Str × Nat)
def visB (sc : Scope) (x : Str) : Bool := match sc.names.lookup x with
  | some .local => true
  | some .cell => true
  | some .free => true
  | _ => false
def glB (sc : Scope) (x : Str) : Bool := decide (sc.names.lookup x = some .globalImplicit)
def okN (x : Str) : Bool := !(x == ("__debug__" : Str)) && !(x == ("__classdict__" : Str)) && !(x == ("__name__" : Str))
def bfName : Bf → Str
  | .len => "len" | .abs => "abs" | .int => "int" | .min2 => "min" | .max2 => "max" | .sum => "sum" | .all => "all" | .any => "any" | .tuple => "tuple" | .list => "list" | .repr => "repr"
  | .min1 => "min" | .max1 => "max" | .sorted => "sorted"
def bltNames : List Str := ["len", "abs", "int", "min", "max", "sum", "all", "any", "tuple", "list", "repr", "isinstance", "bool", "str", "range", "enumerate", "zip", "sorted", "set"]
def plainX : Expr → Bool
  | .Starred _ _ => false
  | .Slice _ _ _ _ => false
  | _ => true
def opB : Bo → Operator → Bool := fun o p => decide (opOf o = p)
def cmB : Co → CmpOp → Bool := fun o p => decide (cOf o = p)
def inB (n : Bool) : CmpOp → Bool
  | .In => !n
  | .NotIn => n
  | _ => false
def tyB (sc : Scope) (t : Ty) : Expr → Bool
  | .Name x _ => decide (x = Str.ofString (tyV t)) && glB sc x
  | _ => false
def tysB (sc : Scope) : List Ty → List Expr → Bool
  | [], [] => true
  | t :: ts, x :: xs => tyB sc t x && tysB sc ts xs
  | _, _ => false
def tyxB (sc : Scope) : List Ty → Expr → Bool
  | ts, .Tuple xs _ _ => tysB sc ts xs
  | [t], .Name x p => tyB sc t (.Name x p)
  | _, _ => false
mutual
def chkG (N : List Str) (sc : Scope) (fn : Str → Bool) : Tg → Expr → Bool
  | .var i, .Name x _ => decide (N[i]? = some x) && (decide (sc.names.lookup x = some .local) || (decide (sc.names.lookup x = some .cell) && fn x))
  | .tup ts, .Tuple es _ _ => chkGs N sc fn ts es
  | _, _ => false
def chkGs (N : List Str) (sc : Scope) (fn : Str → Bool) : Tgs → List Expr → Bool
  | .nil, [] => true
  | .cons t ts, e :: es => plainX e && chkG N sc fn t e && chkGs N sc fn ts es
  | _, _ => false
end
mutual
def slotsT : Tg → List Nat
  | .var i => [i]
  | .tup ts => slotsTs ts
def slotsTs : Tgs → List Nat
  | .nil => []
  | .cons t ts => slotsT t ++ slotsTs ts
end
def ownOf (N : List Str) (scope : Scope) : List (Str × Nat) := scope.names.filterMap fun p => if p.2 == .local || p.2 == .cell then (N.findIdx? (· == p.1)).map fun i => (p.1, i) else none
section
variable (T : Tab) (N : List Str)
def chkV (sc : Scope) (i : Nat) : Expr → Bool
  | .Name x _ => decide (N[i]? = some x) && visB sc x && okN x
  | _ => false
mutual
def chkE (sc : Scope) : Ex → Expr → Bool
  | .var i, .Name x _ => decide (N[i]? = some x) && visB sc x && okN x
  | .glb g, .Name x _ => decide (T.cns.lookup x = some g) && glB sc x && okN x
  | .non, .Constant .none _ _ => true
  | .bl b, .Constant (.bool c) _ _ => decide (b = c)
  | .int i, .Constant (.int j) _ _ => decide (i = j)
  | .str s, .Constant (.str t) _ _ => decide (s = t)
  | .bin o a b, .BinOp x p y _ => opB o p && chkE sc a x && chkE sc b y
  | .neg a, .UnaryOp .USub x _ => chkE sc a x
  | .cmp o a b, .Compare x [p] [y] _ => cmB o p && chkE sc a x && chkE sc b y
  | .cmp2 o o' a b c, .Compare x [p, q] [y, z] _ => cmB o p && cmB o' q && chkE sc a x && chkE sc b y && chkE sc c z
  | .and a b, .BoolOp .And (x :: y :: r) p => chkE sc a x && (match r with | [] => chkE sc b y | z :: r' => chkE sc b (.BoolOp .And (y :: z :: r') p))
  | .or a b, .BoolOp .Or (x :: y :: r) p => chkE sc a x && (match r with | [] => chkE sc b y | z :: r' => chkE sc b (.BoolOp .Or (y :: z :: r') p))
  | .not a, .UnaryOp .Not x _ => chkE sc a x
  | .ite c a b, .IfExp z x y _ => chkE sc c z && chkE sc a x && chkE sc b y
  | .tup es, .Tuple xs _ _ => chkEs sc es xs
  | .lst es, .List xs _ => chkEs sc es xs
  | .idx a i, .Subscript x y _ => plainX y && chkE sc a x && chkE sc i y
  | .slc a lo hi, .Subscript x (.Slice l h none _) _ => chkE sc a x && chkO sc lo l && chkO sc hi h
  | .slcS a st, .Subscript x (.Slice none none (some y) _) _ => chkE sc a x && chkO sc st (some y)
  | .call f es, .Call (.Name g _) xs [] _ => (match T.fns.lookup g with | some fi => decide (fi.id = f ∧ fi.kw = none) | none => false) && glB sc g && okN g && chkEs sc es xs
  | .callD f es d, .Call (.Name g _) xs [] _ => (match T.fns.lookup g with | some fi => decide (fi.id = f ∧ fi.df = some d ∧ xs.length + 1 = fi.ar) | none => false) && glB sc g && okN g && chkEs sc es xs
  | .callK f es e, .Call (.Name g _) xs [⟨k, y, _⟩] _ => (match T.fns.lookup g with | some fi => decide (fi.id = f ∧ fi.kw = k ∧ k.isSome = true ∧ xs.length + 1 = fi.ar) | none => false) && glB sc g && okN g && chkEs sc es xs && chkE sc e y
  | .bfn b es, .Call (.Name g _) (x :: xs) [] _ => decide (g = bfName b) && glB sc g && chkEs sc es (x :: xs)
  | .isi a ts, .Call (.Name g _) [x, t] [] _ => decide (g = Str.ofString "isinstance") && glB sc g && chkE sc a x && tyxB sc ts t && decide (0 < ts.length ∧ ts.length ≤ 8)
  | .comp e t s c ws, .ListComp elt [⟨tg, it, ifs, k⟩] scope _ =>
    decide (k = 0) && blkC N sc scope (ownOf N scope) && decide (ws = (ownOf N scope).map (·.2)) && (slotsT t).all (fun i => ws.contains i) &&
      chkG N (relS scope sc) (fun x => scope.names.lookup x == some .cell) t tg && chkI sc s tg it && chkC (relS scope sc) c ifs && chkE (relS scope sc) e elt
  | .dix i k, .Subscript x y _ => plainX y && chkV N sc i x && chkE sc k y
  | .dgt i k d, .Call (.Attribute x m ap) [y, z] [] cp => decide (m = Str.ofString "get") && (ap.endLine == cp.line) && chkV N sc i x && plainX y && plainX z && chkE sc k y && chkE sc d z
  | .dso i, .Call (.Name g _) [x] [] _ => decide (g = Str.ofString "sorted") && glB sc g && chkV N sc i x
  | .sset a, .Call (.Name g _) [.Call (.Name g2 _) [x] [] _] [] _ => decide (g = Str.ofString "sorted" ∧ g2 = Str.ofString "set") && glB sc g && glB sc g2 && plainX x && chkE sc a x
  | .maxd a d, .Call (.Name g _) [x] [⟨k, y, _⟩] _ => decide (g = Str.ofString "max") && decide (k = some (Str.ofString "default")) && glB sc g && plainX x && chkE sc a x && chkE sc d y
  | .inn n a b, .Compare x [p] [y] _ => inB n p && chkE sc a x && chkE sc b y
  | _, _ => false
def chkEs (sc : Scope) : Exs → List Expr → Bool
  | .nil, [] => true
  | .cons e es, x :: xs => plainX x && chkE sc e x && chkEs sc es xs
  | _, _ => false
def chkO (sc : Scope) : Eo → Option Expr → Bool
  | .no, none => true
  | .yes e, some x => chkE sc e x
  | _, _ => false
def chkC (sc : Scope) : Eo → List Expr → Bool
  | .no, [] => true
  | .yes e, [x] => chkE sc e x
  | _, _ => false
def chkI (sc : Scope) : Src → Expr → Expr → Bool
  | .it e, _, x => (match x with | .Set _ _ _ => false | _ => true) && chkE sc e x
  | .rng es, _, .Call (.Name g _) xs [] _ => decide (g = Str.ofString "range") && glB sc g && chkEs sc es xs && decide (xs.length = 1 ∨ xs.length = 2 ∨ xs.length = 3)
  | .enm e, .Tuple _ _ _, .Call (.Name g _) [x] [] _ => decide (g = Str.ofString "enumerate") && glB sc g && plainX x && chkE sc e x
  | .zip a b, .Tuple _ _ _, .Call (.Name g _) [x, y] [] _ => decide (g = Str.ofString "zip") && glB sc g && plainX x && plainX y && chkE sc a x && chkE sc b y
  | _, _, _ => false
end
end
/-- a new list comes of it -/
def isFr : Ex → Bool
  | .bin _ _ _ => true
  | .lst _ => true
  | .slc _ _ _ => true
  | .slcS _ _ => true
  | .bfn _ _ => true
  | .comp _ _ _ _ _ => true
  | .dso _ => true
  | .sset _ => true
  | _ => false
/-! ### where one stands -/
/-- a def's promise: it hands back what its number evaluates to -/
def spF (K : PySem.W.Frag) (ca : Nat → Addr) (Φ : List D → R D) (ar : Nat) : Sp := fun vs H Q E => ∃ F ds, Dom F H ∧ Reps K F H vs ds ∧ ds.length = ar ∧ Oc (rSh K) (fun c H' => E (.ref (ca c)) none H') F H Q (Φ ds)
/-- how a def's arguments bind -/
structure BdF (K : PySem.W.Frag) (fd : FuncData) (ps : List Str) (fi : FnI) : Prop where
  all : fi.kw = none → Binds K fd ps []
  df : ∀ d, fi.df = some d → ∃ u, RelV (.int d) u ∧ Binds K fd ps [u]
  kw : ∀ k, fi.kw = some k → ∀ (s : Shared) (us : List Value) (w : Value), K.In s.heap → us.length + 1 = ps.length → BindsTo s fd ⟨us, [(k, w)]⟩ (ps.zip (us ++ [w]))
structure FnAt (n : Nat) (Φ : Nat → List D → R D) (ca : Nat → Addr) (X : Cx) (g : Str) (fi : FnI) : Prop where
  ex : ∃ f fd ps, X.mg g = some (.ref f) ∧ PySem.W.keepIn X.K (.ref f) = true ∧ BdF X.K fd ps fi ∧ ps.length = fi.ar ∧ FnOk X.prog X.w X.K X.mg X.base (L2N.CX X.prog X.w) n f fd ps (spF X.K ca (Φ fi.id) fi.ar)
  ar : ∀ l, Φ fi.id l ≠ .stk → l.length = fi.ar
structure GX (T : Tab) (N : List Str) (n : Nat) (Φ : Nat → List D → R D) (C : Nat → D) (ca : Nat → Addr) (sc : Scope) (fn : Str → Bool) (X : Cx) (W : WX) : Prop where
  names : X.N = N
  scope : X.env.scope = sc
  fnc : ∀ x, fn x = true → X.fn x = true
  calm : X.calm = true
  nd : N.Nodup
  room : Room n X.A
  blt : ∀ x ∈ bltNames, X.mg x = none
  fns : ∀ g fi, T.fns.lookup g = some fi → FnAt n Φ ca X g fi
  cns : ∀ g i, T.cns.lookup g = some i → ∃ v u, X.mg g = some u ∧ RelV v u ∧ ∀ F H, Rep X.K F H v (C i)
  pass : ∀ σ, PassesAt (L2N.CX X.prog X.w) X σ (WE W σ)
abbrev wn (ca : Nat → Addr) (W : WX) : Nat → L2.St → Hp → Prop := fun c σ H => W (.ref (ca c)) none σ H
section
variable {T : Tab} {N : List Str} {n : Nat} {Φ : Nat → List D → R D} {C : Nat → D} {ca : Nat → Addr} {sc : Scope} {fn : Str → Bool} {X : Cx} {W : WX} {B : Bs}
theorem GX.blk (G : GX T N n Φ C ca sc fn X W) (s : Shared) (H : Hp) (scope : Scope) (A : Addr) (cl : List (Str × Addr)) (fp : List Addr) :
    GX T N n Φ C ca (relS scope sc) (fun x => scope.names.lookup x == some .cell) (X.blk s H scope (compEnvC scope cl A X.env) fp) (fun _ _ _ _ => False) where
  names := G.names
  scope := by rw [← G.scope]; rfl
  fnc := fun x h => h
  calm := G.calm
  nd := G.nd
  room := G.room
  blt := G.blt
  fns := fun g fi h => ⟨(G.fns g fi h).ex, (G.fns g fi h).ar⟩
  cns := G.cns
  pass := fun σ pins H s e s' I c => by
    obtain ⟨_, _, _, _, _, _, _, _, _, _, _, _, z⟩ := c
    exact z
theorem GX.gl (G : GX T N n Φ C ca sc fn X W) {x : Str} (h : glB sc x = true) : Gl X x := by
  unfold Gl Env.kindOf
  rw [G.scope]
  exact of_decide_eq_true h
theorem GX.vis (G : GX T N n Φ C ca sc fn X W) {x : Str} (h : visB sc x = true) : Vis X.env.scope x := by
  unfold Vis
  rw [G.scope]
  unfold visB at h
  split at h <;> simp_all
theorem okN_dbg {x : Str} (h : okN x = true) : (x == ("__debug__" : Str)) = false := by
  unfold okN at h
  simp only [Bool.and_eq_true, Bool.not_eq_true'] at h
  exact h.1.1
theorem okN_cd {x : Str} (h : okN x = true) : (x == ("__classdict__" : Str)) = false := by
  unfold okN at h
  simp only [Bool.and_eq_true, Bool.not_eq_true'] at h
  exact h.1.2
theorem star_cons {e : Expr} (h : plainX e = true) (es : List Expr) (env : PySem.Env) : starEach (e :: es) env = (false, eval e env) :: starEach es env := by
  cases e <;> first | rfl | cases h
theorem chkE_plain {e : Ex} {x : Expr} (h : chkE T N sc e x = true) : plainX x = true := by
  cases x <;> first | rfl | (cases e <;> cases h)
theorem chkEs_plain : ∀ {es : Exs} {xs : List Expr}, chkEs T N sc es xs = true → xs.all plainX = true
  | .nil, [], _ => rfl
  | .nil, _ :: _, h => by cases h
  | .cons _ _, [], h => by cases h
  | .cons e es, x :: xs, h => by
    simp only [chkEs, Bool.and_eq_true] at h
    simp only [List.all_cons, Bool.and_eq_true]
    exact ⟨h.1.1, chkEs_plain h.2⟩
theorem star_any (pos : Pos) (env : PySem.Env) : ∀ {xs : List Expr}, xs.all plainX = true → (backTo pos (starEach xs env)).any (·.1) = false
  | [], _ => rfl
  | x :: xs, h => by
    simp only [List.all_cons, Bool.and_eq_true] at h
    rw [star_cons h.1]
    show (false || (backTo pos (starEach xs env)).any (·.1)) = false
    rw [star_any pos env h.2]; rfl
theorem pa_cons' {e : Expr} {es : List Expr} {te : TE} {t : TA} (h : plainX e = true) (ha : PE X e te) (hr : PA X es t) : PA X (e :: es) (tCons te t) := pa_cons ha hr (star_cons h es X.env)
theorem nomarkB (x : Expr) (o : Co) : behindInMarks (cOf o) x = false := nobehind x (by cases o <;> decide) (by cases o <;> decide)
/-! ### readings, put together -/
section
variable {K : PySem.W.Frag} {Wc : Nat → L2.St → Hp → Prop} {σ : L2.St} {H : Hp}
theorem truB_ofB (r : R Bool) : truB (ofB r) = r := by cases r <;> rfl
/-- two values, then an operation on them -/
theorem tG_op {f g : Env → R D} {op : D → D → R D} {fr : Bool} {Q : VK} (he : ∀ x y c, op x y ≠ .exc c) (h : tG K B Wc (rV K fr) (fun ρ => (f ρ).bind fun x => (g ρ).bind fun y => op x y) σ H Q) :
    tOp (rBin K fr op) (tG K B Wc (rX K) f) (tG K B Wc (rX K) g) σ H Q := by
  obtain ⟨ρ, F, st, o⟩ := h
  refine (oc_bind (rel := rX K) st o).imp fun x H1 ⟨F1, a, e1, st1, ra, o1⟩ => ?_
  refine (oc_bind (rel := rX K) st1 o1).imp fun y H2 ⟨F2, b, e2, st2, rb, o2⟩ => ?_
  refine ⟨F2, a, b, st2.dom, ra.ext e2, rb, ?_⟩
  cases q : op a b with
  | ok d => rw [q] at o2; exact o2
  | exc c => exact absurd q (he a b c)
  | stk => rw [q] at o2; exact o2.elim
end
end
end Rv
/-! Within an except suite: ends of iterators, targets, comprehensions. -/
namespace Rv
open PySem PySem.Spec PyProof.Rows L2 L2H HotX
section
variable {prog : Program} {w : World} {A : Around} {E : Value → Shared → Prop} {s : Shared}
theorem list_end_hot {it l x1 : Addr} {i : Nat} {items : Array Value} {Q : Option Value → Shared → Prop} (hot : HotAt A x1 s.heap) (nx : x1 ≠ it)
    (hit : s.heap.IsListIter it l i) (hl : s.heap.IsList l items) (hx : items[i]? = none)
    (hQ : ∀ h', Heap.ExtBut it s.heap h' → Q none { s with heap := h' }) : wpAny (model prog w) A (pyNext (.ref it)) Q E s := by
  obtain ⟨o, ho, hc, hd⟩ := id hit
  obtain ⟨ol, hol, _, nl, hdl⟩ := hl
  obtain ⟨hh, o1, vs1, h1, d1, c1⟩ := hot
  unfold pyNext
  refine wpAny_bind (wpAny_attempt (wpAny_callSpecial?_slot (name := Str.ofString "__next__") hit.typeIs slot_listiter_next
    (wpAny_call_entry slot_listiter_next hit.typeIs entry_listiter_next ?_ (args_listiter_next _))))
  show wpAny _ _ (field (.ref it) 0 >>= _) _ _ s
  refine wpAny_bind (wpAny_field ho hd (x := .ref l) rfl ?_)
  show wpAny _ _ (if (Value.ref l == Value.none) = true then _ else _) _ _ s
  rw [if_neg (show ¬ ((Value.ref l == Value.none) = true) from Bool.false_ne_true)]
  show wpAny _ _ (field (.ref it) 1 >>= _) _ _ s
  refine wpAny_bind (wpAny_field ho hd (x := .int i 0) rfl ?_)
  show wpAny _ _ (seqItems? (.ref l) >>= _) _ _ s
  refine wpAny_bind (wpAny_seqItems hol hdl ?_)
  simp only [Int.toNat_natCast, hx]
  refine wpAny_bind (wpAny_rule (wpAny_bind (wpAny_setField ho hd (by simp) ?_)))
  show wpAny _ _ (newExc (.type "StopIteration") [] >>= _) _ _ _
  refine wpAny_bind ?_
  simp only [newExc, newTuple]
  refine wpAny_bind (wpAny_newObj_type ?_ (by size_fits))
  refine wpAny_bind (m := firstArgMember _ _) (wpAny_of_eq (a := Value.none) (by first | rfl | (simp only [firstArgMember]; rfl)) ?_)
  refine wpAny_newObj_type ?_ (by size_fits)
  have g1 := (Heap.get?_update_other s.heap (Obj.mapFields (·.setIfInBounds 0 Value.none)) (Ne.symm nx)).trans h1
  refine raiseNew_hot ⟨hh, o1, vs1, Heap.get?_push_of_some _ (Heap.get?_push_of_some _ g1), d1, c1⟩ (Nat.ne_of_lt (Heap.lt_size (Heap.get?_push_of_some _ g1))) (Heap.get?_push_size _ rfl) rfl (by first | (simp; done) | (simp; omega) | (simp only [Array.size_append]; simp; omega)) ?_
  refine wpAny_bind (wpAny_isInstance (T := "StopIteration") (b := true) ⟨_, Heap.get?_update_self _ (Heap.get?_push_size _ rfl) rfl, rfl⟩ isSubtype_stop ?_)
  refine wpAny_pure (hQ _ fun b u hb e => ?_)
  have g2 := (Heap.get?_update_other s.heap (Obj.mapFields (·.setIfInBounds 0 Value.none)) (Ne.symm hb)).trans e
  rw [Heap.get?_update_other _ _ (Nat.ne_of_gt (Heap.lt_size (Heap.get?_push_of_some _ g2)))]
  exact Heap.get?_push_of_some _ (Heap.get?_push_of_some _ g2)
theorem tuple_end_hot {it t x1 : Addr} {i : Nat} {items : Array Value} {Q : Option Value → Shared → Prop} (hot : HotAt A x1 s.heap) (nx : x1 ≠ it)
    (hit : IsTupIter s.heap it t i) (ht : IsTup s.heap t items) (hx : items[i]? = none)
    (hQ : ∀ h', Heap.ExtBut it s.heap h' → Q none { s with heap := h' }) : wpAny (model prog w) A (pyNext (.ref it)) Q E s := by
  obtain ⟨o, ho, hc, hd⟩ := id hit
  obtain ⟨ol, hol, _, nl, hdl⟩ := ht
  obtain ⟨hh, o1, vs1, h1, d1, c1⟩ := hot
  unfold pyNext
  refine wpAny_bind (wpAny_attempt (wpAny_callSpecial?_slot (name := Str.ofString "__next__") hit.typeIs slot_tupleiter_next
    (wpAny_call_entry slot_tupleiter_next hit.typeIs entry_tupleiter_next ?_ (args_tupleiter_next _))))
  show wpAny _ _ (field (.ref it) 0 >>= _) _ _ s
  refine wpAny_bind (wpAny_field ho hd (x := .ref t) rfl ?_)
  show wpAny _ _ (if (Value.ref t == Value.none) = true then _ else _) _ _ s
  rw [if_neg (show ¬ ((Value.ref t == Value.none) = true) from Bool.false_ne_true)]
  show wpAny _ _ (field (.ref it) 1 >>= _) _ _ s
  refine wpAny_bind (wpAny_field ho hd (x := .int i 0) rfl ?_)
  show wpAny _ _ (seqItems? (.ref t) >>= _) _ _ s
  refine wpAny_bind (wpAny_seqItems hol hdl ?_)
  simp only [Int.toNat_natCast, hx]
  refine wpAny_bind (wpAny_rule (wpAny_bind (wpAny_setField ho hd (by simp) ?_)))
  show wpAny _ _ (newExc (.type "StopIteration") [] >>= _) _ _ _
  refine wpAny_bind ?_
  simp only [newExc, newTuple]
  refine wpAny_bind (wpAny_newObj_type ?_ (by size_fits))
  refine wpAny_bind (m := firstArgMember _ _) (wpAny_of_eq (a := Value.none) (by first | rfl | (simp only [firstArgMember]; rfl)) ?_)
  refine wpAny_newObj_type ?_ (by size_fits)
  have g1 := (Heap.get?_update_other s.heap (Obj.mapFields (·.setIfInBounds 0 Value.none)) (Ne.symm nx)).trans h1
  refine raiseNew_hot ⟨hh, o1, vs1, Heap.get?_push_of_some _ (Heap.get?_push_of_some _ g1), d1, c1⟩ (Nat.ne_of_lt (Heap.lt_size (Heap.get?_push_of_some _ g1))) (Heap.get?_push_size _ rfl) rfl (by first | (simp; done) | (simp; omega) | (simp only [Array.size_append]; simp; omega)) ?_
  refine wpAny_bind (wpAny_isInstance (T := "StopIteration") (b := true) ⟨_, Heap.get?_update_self _ (Heap.get?_push_size _ rfl) rfl, rfl⟩ isSubtype_stop ?_)
  refine wpAny_pure (hQ _ fun b u hb e => ?_)
  have g2 := (Heap.get?_update_other s.heap (Obj.mapFields (·.setIfInBounds 0 Value.none)) (Ne.symm hb)).trans e
  rw [Heap.get?_update_other _ _ (Nat.ne_of_gt (Heap.lt_size (Heap.get?_push_of_some _ g2)))]
  exact Heap.get?_push_of_some _ (Heap.get?_push_of_some _ g2)
theorem HotAt_keeps {x1 : Addr} {h h' : Heap} (hot : HotAt A x1 h) (k : ∀ o, h.get? x1 = some o → h'.get? x1 = some o) : HotAt A x1 h' := by
  obtain ⟨hh, o1, vs1, h1, d1, c1⟩ := hot
  exact ⟨hh, o1, vs1, k _ h1, d1, c1⟩
theorem unpackItems_hot {t x1 : Addr} {items : Array Value} {Q : List Value → Shared → Prop} (hot : HotAt A x1 s.heap) (ht : IsTup s.heap t items)
    (hQ : ∀ h', Heap.ExtBut s.heap.objs.size s.heap h' → Q items.toList { s with heap := h' }) : wpAny (model prog w) A (unpackItems (.ref t) items.size none) Q E s := by
  have hlt : t ≠ s.heap.objs.size := by obtain ⟨o, ho, _⟩ := ht; exact Nat.ne_of_lt (Heap.lt_size ho)
  have hx1 : x1 ≠ s.heap.objs.size := by obtain ⟨_, o1, vs1, h1, _⟩ := hot; exact Nat.ne_of_lt (Heap.lt_size h1)
  unfold unpackItems
  refine wpAny_bind ?_
  · unfold notIterableAtAll
    refine wpAny_bind (wpAny_specialOf ht.typeIs slot_tuple_iter.lookup ?_)
    refine wpAny_pure ?_
    simp only [Bool.false_eq_true, if_false]
    refine wpAny_bind (wpAny_holding (iter_tuple ht ?_))
    refine wpAny_bind (wpAny_holding (draw_tuple hlt items.size 0 _ _ ⟨_, Heap.get?_push_size _ rfl, rfl, rfl⟩ (ht.push _) (by omega) fun h₁ hit₁ hs₁ => ?_))
    have hall : List.take items.size (List.drop 0 items.toList) = items.toList := by
      rw [List.drop_zero]; exact List.take_of_length_le (by simp)
    rw [hall]
    rw [if_neg (by simp)]
    have ht₁ : IsTup h₁ t items := (ht.push _).extBut hs₁.extBut hlt
    have hot₁ : HotAt A x1 h₁ := HotAt_keeps hot fun o e => hs₁.extBut x1 o hx1 (Heap.get?_push_of_some _ e)
    refine wpAny_bind (wpAny_holding (tuple_end_hot hot₁ hx1 hit₁ ht₁ (by simp) fun h₂ he₂ => ?_))
    simp only [Option.isSome_none, Bool.false_eq_true, if_false]
    refine wpAny_pure (hQ h₂ fun b o hb e => he₂ b o hb (hs₁.extBut b o hb (Heap.get?_push_of_some _ e)))
theorem assign_hot {env : PySem.Env} {elts : List Expr} {k : Nat} {pos : Pos} {t x1 : Addr} {items : Array Value} {Q : Unit → Shared → Prop} (hot : HotAt A x1 s.heap) (ht : IsTup s.heap t items)
    (hn : (assignEach elts env).length = items.size) (hstar : (assignEach elts env).findIdx? (·.1) = none)
    (h : ∀ h', Heap.ExtBut s.heap.objs.size s.heap h' → wpAny (model prog w) A (assignInOrder ((assignEach elts env).map (·.2)) items.toList) Q E { s with heap := h' }) :
    wpAny (model prog w) A (assign (.Tuple elts k pos) env (.ref t)) Q E s := by
  rw [assign_Tuple]
  refine wpAny_bind (wpAny_standAt ?_)
  unfold unpack
  rw [hn, hstar]
  exact wpAny_bind (wpAny_holding (unpackItems_hot hot ht h))
end
theorem turn_listH {P : Program} {w : World} {K : PySem.W.Frag} {tg : Expr} (a it : Addr) : TurnH P w K tg (Itl K a) [it] it (fun i h => h.IsListIter it a i) where
  mem := by simp
  obj := fun i h st b hb => by
    have e : b = it := by simpa using hb
    subst e
    obtain ⟨o, e, c, d⟩ := st
    exact ⟨o, e, fun v z => by rw [d] at z; cases z⟩
  keep := fun i h h' st k => st.at fun o e => k it (by simp) o e
  item := by
    intro X hP hw hK hc i pins s σ H E I hf st hg
    subst hP hw hK
    obtain ⟨xs, x, hq, hx⟩ := hg
    obtain ⟨its, rv, p, hz⟩ := I.list hq
    obtain ⟨u, hu, ru⟩ := rv.get hx
    obtain ⟨f0, f1, f2, f3, f4, f5⟩ := hf it (by simp)
    refine wpAny_pyNext_list_item st p.isList (x := u) (by simpa using hu) fun h' st' sb => ?_
    have I1 : Inv X pins σ H { s with heap := h' } := I.turned (t' := s.toks) (fun b o hb e => (sb.2 b hb).trans e) f0 f1 f3 f4 f5
    obtain ⟨o, e, c, d⟩ := id st'
    exact ⟨u, rfl, go_of (s := { s with heap := h' }) e c d (by decide) ⟨x, H, I1, ru, ⟨rfl, fun ys hy => by rw [I.list_inj hy hq]; exact hx⟩, st', fun b hb => (hf b hb).1⟩⟩
  done := by
    intro X hP hw hK hc i pins s σ H E I hf st hg
    subst hP hw hK
    obtain ⟨xs, hq, hx⟩ := hg
    obtain ⟨its, rv, p, hz⟩ := I.list hq
    obtain ⟨f0, f1, f2, f3, f4, f5⟩ := hf it (by simp)
    have hl := rv.length
    obtain ⟨q, ⟨hh, v1, e1, c1⟩, hp⟩ := hc
    have hq1 := I.pin q (List.mem_append_left _ hp)
    exact list_end_hot ⟨hh, q.2, v1, hq1.1, e1, c1⟩ (f5 q (List.mem_append_left _ hp)) st p.isList (by simp; omega) fun h' eb => ⟨rfl, I.turned (t' := s.toks) (fun b o hb e => eb b o hb e) f0 f1 f3 f4 f5⟩
  self := fun _ _ _ _ _ st h => wpAny_pyIter_listiter st h
section
variable {X : Cx} {tg : Expr} {pos : Pos}
theorem pi_listH {l : Expr} {tl : TE} (hl : PE X l tl) : PIH X tg l (iList X.K tl) := by
  refine ⟨fun pins s σ H R I h => ?_⟩
  refine thn (hl.run pins s σ H _ I h) fun v s1 ⟨x, H1, I1, r1, q1⟩ => ?_
  obtain ⟨a, e, ⟨xs, hq⟩, q⟩ := q1
  subst e
  cases r1
  obtain ⟨its, rv, p, hz⟩ := I1.list hq
  refine wpAny_pyIter_list p.isList ?_
  refine ⟨s1.heap.objs.size, [s1.heap.objs.size], _, _, H1, rfl, I1.kept (t' := s1.toks) fun b o e => Heap.get?_push_of_some _ e, turn_listH a _, ⟨_, Heap.get?_push_size _ rfl, rfl, rfl⟩, fun b hb => ?_, q⟩
  have e : b = s1.heap.objs.size := by simpa using hb
  subst e
  exact I1.fpOk (Nat.le_refl _) (I1.hok.fresh (Nat.le_refl _))
theorem pg_tupH {es : List Expr} {k : Nat} {t : TGs} {n : Nat} (hc : HotC X) (h : PGs X es t)
    (hn : (assignEach es X.env).length = n := by rfl) (hst : (assignEach es X.env).findIdx? (·.1) = none := by rfl) : PG X (.Tuple es k pos) (gTup X.K n t) := by
  refine ⟨fun pins s σ H v u Q I r hw => ?_⟩
  obtain ⟨a, xs, e1, hq, hl, hw⟩ := hw
  subst e1
  cases r
  obtain ⟨its, rv, ht, hz⟩ := I.tuple hq
  obtain ⟨x1, hot⟩ := hc.at I
  refine assign_hot hot ht (by simp [hn, ← hl, rv.length]) hst fun h' hx => ?_
  have I1 : Inv X pins σ H { s with heap := h' } := I.kept (t' := s.toks) fun b o e => hx b o (Nat.ne_of_lt (Heap.lt_size e)) e
  exact h.run pins _ σ H xs _ Q I1 (by simpa using rv) hw
end
/-! ### a list comprehension there -/
abbrev blkH (X : Cx) (s : Shared) (H : Hp) (scope : Scope) (cenv : PySem.Env) (fp : List Addr) : Cx := { X.blk s H scope cenv fp with pn := X.pn }
section
variable {X : Cx} {pins : List (Addr × Obj)} {σ : L2.St} {H : Hp} {s : Shared}
theorem HotC.blk (hc : HotC X) (s : Shared) (H : Hp) (scope : Scope) (cenv : PySem.Env) (fp : List Addr) : HotC (blkH X s H scope cenv fp) := by
  obtain ⟨p, h, m⟩ := hc
  exact ⟨p, h, m⟩
theorem ok_blkH {s : Shared} {H : Hp} {scope : Scope} {cenv : PySem.Env} {fp : List Addr} (ok : (X.blk s H scope cenv fp).Ok) : (blkH X s H scope cenv fp).Ok :=
  ⟨ok.mod, ok.kind, ok.glob, ok.blt, ok.above, ok.inj, ok.has, ok.cab, ok.hd, ok.frames, ok.stk, ok.exf, ok.bs, ok.bsz, ok.noex, ok.exfs, ok.funs, ok.frf⟩
theorem block_startH {scope : Scope} {own : List (Str × Nat)} {fp : List Addr} (I : Inv X pins σ H s) (ok : BlkOk X.N X.env.scope scope own) (hN : X.N.Nodup) (hfp : ∀ b ∈ fp, FpOk X pins H b ∧ b < s.heap.objs.size) :
    Inv (blkH X s H scope (compEnvC scope (cellsFrom (s.heap.objs.size + 1) scope.names (cloFrom X.env.cells scope.names [])) s.heap.objs.size X.env) fp) [] (wipe σ (own.map (·.2))) H { s with heap := pushCells (s.heap.push { cls := .type "dict", data := .dict #[] }) scope.names } := by
  have B := block_start I ok hN hfp
  refine ⟨ok_blkH B.ok, B.os, B.bare, B.base, B.loc, B.cell, B.free, B.freeC, fun p hp => ?_, B.hok, B.len⟩
  rw [List.append_nil] at hp
  have P := I.pin p (List.mem_append_left _ hp)
  refine ⟨pushCells_keeps _ _ _ _ (Heap.get?_push_of_some _ P.1), P.2.1, ?_, fun z => ?_, P.2.2.2.2⟩
  · show p.1 ≠ s.heap.objs.size
    exact Nat.ne_of_lt (Heap.lt_size P.1)
  · exact (List.mem_cons.mp (I.stkSub p.1 z)).elim P.2.2.1 P.2.2.2.1
end
section
variable {X : Cx}
theorem lc_coreH {pins : List (Addr × Obj)} {s : Shared} {σ : L2.St} {H : Hp} {Q : VK} {elt tg iter : Expr} {ifs : List Expr} {scope : Scope} {own : List (Str × Nat)} {pos pos' : Pos} {wi : TI} {g : TG} {tt : TT} {te : TE} {use : Option (Value → Sem Unit)} {Qf : Value → Shared → Prop}
    (hc : HotC X) (hN : X.N.Nodup) (I : Inv X pins σ H s) (hi : PIH X tg iter wi) (ok : BlkOk X.N X.env.scope scope own)
    (hg : ∀ (s : Shared) (H : Hp) (C : Addr) (cl : List (Str × Addr)) (fp : List Addr), PG (blkH X s H scope (compEnvC scope cl C X.env) fp) tg g) (ht : ∀ (s : Shared) (H : Hp) (C : Addr) (cl : List (Str × Addr)) (fp : List Addr), PTs (blkH X s H scope (compEnvC scope cl C X.env) fp) ifs tt)
    (he : ∀ (s : Shared) (H : Hp) (C : Addr) (cl : List (Str × Addr)) (fp : List Addr), PE (blkH X s H scope (compEnvC scope cl C X.env) fp) elt te) (hs : ∀ x, foldedSetIterable iter X.env x = pure x)
    (h : tLc wi g tt te (own.map (·.2)) σ H Q)
    (hRR : ∀ D C s' m H', Inv X pins σ H' s' → Q (.ref D) H' → s'.heap.Ns C m → FpOk X pins H' C → compPost (model X.prog X.w) X.A X.xe use Qf (.ref D) C (.ok .next) s') :
    wpAny (model X.prog X.w) X.A (comprehension (.ListComp elt [⟨tg, iter, ifs, 0⟩] scope pos) scope X.env pos' (newList []) false (eval iter X.env) use) Qf X.xe s := by
  have hfree : ∀ y ∈ scope.names, y.2 = .free → ∃ c, X.env.cells.lookup y.1 = some c := fun y hy e => by
    rcases ok.free y hy e with k | k
    · exact I.ok.has _ (.inl k)
    · exact I.ok.has _ (.inr k)
  refine wpAny_comprehension_free (use := use) rfl hs (closure_ok hfree) ok.kind (fun y hy e => by rw [ok.uniq y hy, e])
    (thn (hi.run pins s σ H _ I h) fun xv s1 hx => thn hx fun itv s2 h2 => ?_)
  obtain ⟨it, fp, tn, J, H2, e, I2, T, st2, f2, q⟩ := h2
  subst e
  refine wpAny_newObj_type (newEnv_comp ?_) (by show 0 ≤ sizeLine; decide)
  generalize hD : s2.heap.objs.size = D
  have hDn : H2 D = none := I2.hok.fresh (Nat.le_of_eq hD)
  obtain ⟨W, ⟨m0, w0⟩, turn⟩ := q D hDn
  generalize hs3 : ({ s2 with heap := s2.heap.push { cls := .type "list", data := .seq ([] : List Value).toArray } } : Shared) = s3
  have I3 : Inv X pins σ (upd H2 D (.lst [])) s3 := by
    rw [← hs3]
    refine I2.laid (t' := s2.toks) (fun b o e => Heap.get?_push_of_some _ e) (Nat.le_of_eq hD) ⟨Nat.zero_le _, [], 0, .nil, ?_⟩
    rw [← hD]
    exact Heap.get?_push_size _ rfl
  have h3 : s3.heap = s2.heap.push { cls := .type "list", data := .seq ([] : List Value).toArray } := by rw [← hs3]
  have sz : ∀ b ∈ fp, b < s2.heap.objs.size := fun b hb => by
    obtain ⟨o, e, _⟩ := T.obj _ _ st2 b hb
    exact Heap.lt_size e
  have f3 : ∀ b ∈ fp, FpOk X pins (upd H2 D (.lst [])) b ∧ b < s3.heap.objs.size := fun b hb => by
    have hlt := sz b hb
    refine ⟨⟨?_, (f2 b hb).2⟩, by rw [h3, Heap.size_push]; exact Nat.lt_succ_of_lt hlt⟩
    rw [upd_ne (by rw [← hD]; exact Nat.ne_of_lt hlt)]
    exact (f2 b hb).1
  have st3 : tn 0 s3.heap := T.keep _ _ _ st2 fun b _ o e => by rw [h3]; exact Heap.get?_push_of_some _ e
  have I4 := block_startH I3 ok hN f3
  have pg := hg s3 (upd H2 D (.lst [])) s3.heap.objs.size (cellsFrom (s3.heap.objs.size + 1) scope.names (cloFrom X.env.cells scope.names [])) fp
  have pt := ht s3 (upd H2 D (.lst [])) s3.heap.objs.size (cellsFrom (s3.heap.objs.size + 1) scope.names (cloFrom X.env.cells scope.names [])) fp
  have pe := he s3 (upd H2 D (.lst [])) s3.heap.objs.size (cellsFrom (s3.heap.objs.size + 1) scope.names (cloFrom X.env.cells scope.names [])) fp
  show codeAny _ _ (.compStart (.ListComp elt [⟨tg, iter, ifs, 0⟩] scope pos) 0 (.ref it) (.ref D) (compEnvC scope (cellsFrom (s3.heap.objs.size + 1) scope.names (cloFrom X.env.cells scope.names [])) s3.heap.objs.size X.env)) (compPost (model X.prog X.w) X.A X.xe use Qf (.ref D) s3.heap.objs.size) { s3 with heap := pushCells (s3.heap.push { cls := .type "dict", data := .dict #[] }) scope.names }
  have nfp : ∀ b ∈ fp, (upd H2 D (.lst [])) b = none := fun b hb => (f3 b hb).1.1
  generalize hce : compEnvC scope (cellsFrom (s3.heap.objs.size + 1) scope.names (cloFrom X.env.cells scope.names [])) s3.heap.objs.size X.env = ce at I4 pg pt pe ⊢
  have cL : ce.locals = s3.heap.objs.size := by subst hce; rfl
  generalize hH3 : upd H2 D (.lst []) = H3 at I3 I4 pg pt pe w0 nfp f3
  generalize hs4 : ({ s3 with heap := pushCells (s3.heap.push { cls := .type "dict", data := .dict #[] }) scope.names } : Shared) = s4 at I4 ⊢
  have st4 : tn 0 s4.heap := T.keep _ _ _ st3 fun b _ o e => by rw [← hs4]; exact pushCells_keeps _ _ _ _ (Heap.get?_push_of_some _ e)
  have stat : ∀ {σ' : L2.St} {H' : Hp} {s' : Shared}, Inv (blkH X s3 H3 scope ce fp) [] σ' H' s' → (∀ b ∈ fp, H' b = none) → ∀ b ∈ fp, FpOk (blkH X s3 H3 scope ce fp) [] H' b := fun {σ' H' s'} I' hn b hb =>
    ⟨hn b hb, (I'.ok.exf b hb).1, I'.ok.exfs b hb, .inl hb, fun x c e => (I'.ok.exf b hb).2 x c e, fun p hp => (f3 b hb).1.2.2.2.2.2 p (List.mem_append_left _ (by rw [List.append_nil] at hp; exact hp))⟩
  have hcB : HotC (blkH X s3 H3 scope ce fp) := HotC.blk hc s3 H3 scope ce fp
  have loop : codeAny (model X.prog X.w) X.A (.compLoop (.ListComp elt [⟨tg, iter, ifs, 0⟩] scope pos) 0 (.ref it) (.ref D) ce) (compPost (model X.prog X.w) X.A X.xe use Qf (.ref D) s3.heap.objs.size) s4 := by
    refine compLoop_any (fun n s' => ∃ i H', Inv (blkH X s3 H3 scope ce fp) [] (wipe σ (own.map (·.2))) H' s' ∧ tn i s'.heap ∧ (∀ b ∈ fp, H' b = none) ∧ W i n H') ?_ m0 ⟨0, H3, I4, st4, nfp, w0⟩
    rintro n s5 ⟨i, H5, I5, st5, n5, w5⟩
    rcases turn i n H5 w5 with ⟨stop, qq⟩ | ⟨go, Nx, hNx, step⟩
    · have td := T.done (blkH X s3 H3 scope ce fp) rfl rfl rfl hcB i [] s5 _ H5 (fun _ _ => False) I5 (stat I5 n5) st5 stop
      refine thnF td fun r s6 ⟨hr, I6⟩ => ?_
      subst hr
      have I7 : Inv X pins σ H5 s6 := I3.call' (ch := fp) I6.os I6.base I6.hok I6.bare fun b hb => ⟨(f3 b hb).1.2.2.2.1, (f3 b hb).1.2.1, (f3 b hb).1.2.2.2.2.1, (f3 b hb).1.2.2.2.2.2⟩
      have nC : H5 s3.heap.objs.size = none := by
        have z : H5 ce.locals = none := I6.free
        rw [cL] at z
        exact z
      obtain ⟨m, hn, _⟩ := I6.loc
      have hn : s6.heap.Ns ce.locals m := hn
      rw [cL] at hn
      exact hRR D s3.heap.objs.size s6 m H5 I7 qq hn (I3.fpOk (Nat.le_refl _) nC)
    · have ti := T.item (blkH X s3 H3 scope ce fp) rfl rfl rfl hcB i [] s5 _ H5 (fun _ _ => False) I5 (stat I5 n5) st5 go
      refine thnF ti fun r s6 ⟨u, hr, h6⟩ => ?_
      subst hr
      refine thnF h6 fun _ s7 ⟨x, H7, I7, r7, y7, st7, n7⟩ => ?_
      have I7' := I7.pinned (stat I7 n7) (T.obj _ _ st7)
      refine thnF (pg.run _ s7 _ H7 x u _ I7' r7 (step x H7 y7)) fun _ s8 ⟨σ8, H8, I8, hw8, q8⟩ => ?_
      refine thnF (pt.run _ s8 σ8 H8 _ I8 q8) fun b s9 ⟨H9, I9, q9⟩ => ?_
      have fin : ∀ {s' : Shared} {H' : Hp}, Inv (blkH X s3 H3 scope ce fp) ([] ++ pinsAt fp s7.heap) σ8 H' s' → Nx H' → ∃ m, m < n ∧ ∃ i H', Inv (blkH X s3 H3 scope ce fp) [] (wipe σ (own.map (·.2))) H' s' ∧ tn i s'.heap ∧ (∀ b ∈ fp, H' b = none) ∧ W i m H' := fun {s' H'} I' nx => by
        obtain ⟨m', hm, w'⟩ := hNx H' nx
        have pin' : ∀ b ∈ fp, ∀ o, s7.heap.get? b = some o → s'.heap.get? b = some o ∧ H' b = none := fun b hb o e =>
          let z := I'.pin (b, o) (List.mem_append_right _ (List.mem_append_right _ (mem_pinsAt hb e)))
          ⟨z.1, z.2.1⟩
        have hl : (wipe σ (own.map (·.2))).length = σ8.length := by rw [← hw8, wipe_length]
        refine ⟨m', hm, i + 1, H', (I'.unpinned (pins := [])).weak hl (fun j v e => ?_), T.keep _ _ _ st7 fun b hb o e => (pin' b hb o e).1, fun b hb => ?_, w'⟩
        · rw [← hw8] at e
          exact (wipe_some e).1
        · obtain ⟨o, e, _⟩ := T.obj _ _ st7 b hb
          exact (pin' b hb o e).2
      cases b with
      | false =>
        simp only [Bool.false_eq_true, if_false] at q9 ⊢
        exact fin I9 q9
      | true =>
        simp only [if_true] at q9 ⊢
        refine thnF (pe.run _ s9 σ8 H9 _ I9 q9) fun z s10 ⟨yv, H10, I10, r10, acc, hD10, hz10, nx⟩ => ?_
        exact app_ok (X := blkH X s3 H3 scope ce fp) I10 hD10 hz10 r10 fun s11 I11 => fin I11 nx
  exact codeAny_compStart_list loop (T.self X.A 0 _ _ _ st4 loop)
theorem pe_lcH {elt tg iter : Expr} {ifs : List Expr} {scope : Scope} {own : List (Str × Nat)} {pos : Pos} {wi : TI} {g : TG} {tt : TT} {te : TE} (hc : HotC X) (hN : X.N.Nodup) (hi : PIH X tg iter wi) (ok : BlkOk X.N X.env.scope scope own)
    (hg : ∀ (s : Shared) (H : Hp) (C : Addr) (cl : List (Str × Addr)) (fp : List Addr), PG (blkH X s H scope (compEnvC scope cl C X.env) fp) tg g) (ht : ∀ (s : Shared) (H : Hp) (C : Addr) (cl : List (Str × Addr)) (fp : List Addr), PTs (blkH X s H scope (compEnvC scope cl C X.env) fp) ifs tt)
    (he : ∀ (s : Shared) (H : Hp) (C : Addr) (cl : List (Str × Addr)) (fp : List Addr), PE (blkH X s H scope (compEnvC scope cl C X.env) fp) elt te) (hs : ∀ x, foldedSetIterable iter X.env x = pure x := by intro _; rfl) :
    PE X (.ListComp elt [⟨tg, iter, ifs, 0⟩] scope pos) (tLc wi g tt te (own.map (·.2))) := by
  refine ⟨fun pins s σ H Q I h => ?_⟩
  rw [eval_ListComp]
  refine lc_coreH hc hN I hi ok hg ht he hs h fun D C s' m H' I' q hn f => ⟨m, hn, fun h'' sb => ?_⟩
  obtain ⟨f0, f1, f2, f3, f4, f5⟩ := f
  exact ⟨.ref D, H', I'.turned (t' := s'.toks) (fun b o hb e => (sb.2 b hb).trans e) f0 f1 f3 f4 f5, rfl, q⟩
end
end Rv
/-! `_law_kin`: the names of the classes that a caught refusal is of. -/
namespace Rv
open PySem PySem.Spec PyProof.Rows L2 L2H HotX
/-! ### the text -/
inductive KinIt : List Expr → List (Str × Str) → Prop
  | nil : KinIt [] []
  | cons {nm cl : Str} {j k : Nat} {p1 p2 p3 p4 p5 p6 : Pos} {xs : List Expr} {l : List (Str × Str)} : KinIt xs l →
      KinIt (.Tuple [.Constant (.str nm) j p1, .Call (.Name (Str.ofString "isinstance") p2) [.Name (Str.ofString "e") p3, .Name cl p4] [] p5] k p6 :: xs) ((nm, cl) :: l)
def kinIt1 : Expr → Option (Str × Str)
  | .Tuple [.Constant (.str nm) _ _, .Call (.Name i _) [.Name e _, .Name cl _] [] _] _ _ => if i = Str.ofString "isinstance" ∧ e = Str.ofString "e" then some (nm, cl) else none
  | _ => none
def kinItB : List Expr → Option (List (Str × Str))
  | [] => some []
  | x :: xs => match kinIt1 x, kinItB xs with
    | some y, some l => some (y :: l)
    | _, _ => none
theorem kinItB_ok : ∀ {xs : List Expr} {l : List (Str × Str)}, kinItB xs = some l → KinIt xs l
  | [], l, h => by cases h; exact .nil
  | x :: xs, l, h => by
    unfold kinItB at h
    split at h
    · rename_i y l' e1 e2
      cases h
      unfold kinIt1 at e1
      split at e1
      · split at e1
        · rename_i q
          obtain ⟨q1, q2⟩ := q
          cases e1
          subst q1 q2
          exact .cons (kinItB_ok e2)
        · cases e1
      · cases e1
    · cases h
structure KinM where
  es : List Expr
  l : List (Str × Str)
  scope : Scope
  kp : Pos
  lp : Pos
  ap : Pos
  p1 : Pos
  p2 : Pos
  p3 : Pos
  p4 : Pos
  p5 : Pos
  k : Nat
  tp : Pos
  cp : Pos
  rp : Pos
def kinBody : List Stmt → Option KinM
  | [.Assign [.Name kn kp] (.List es lp) ap, .Return (some (.ListComp (.Name n1 p1) [⟨.Tuple [.Name n2 p2, .Name t1 p3] k tp, .Name kn2 p4, [.Name t2 p5], a⟩] scope cp)) rp] =>
    if a = 0 ∧ kn = Str.ofString "kin" ∧ kn2 = Str.ofString "kin" ∧ n1 = Str.ofString "name" ∧ n2 = Str.ofString "name" ∧ t1 = Str.ofString "there" ∧ t2 = Str.ofString "there" then
      (kinItB es).map fun l => ⟨es, l, scope, kp, lp, ap, p1, p2, p3, p4, p5, k, tp, cp, rp⟩
    else none
  | _ => none
theorem kinBody_eq {b : List Stmt} {m : KinM} (h : kinBody b = some m) : KinIt m.es m.l ∧
    b = [.Assign [.Name (Str.ofString "kin") m.kp] (.List m.es m.lp) m.ap, .Return (some (.ListComp (.Name (Str.ofString "name") m.p1) [⟨.Tuple [.Name (Str.ofString "name") m.p2, .Name (Str.ofString "there") m.p3] m.k m.tp, .Name (Str.ofString "kin") m.p4, [.Name (Str.ofString "there") m.p5], 0⟩] m.scope m.cp)) m.rp] := by
  unfold kinBody at h
  split at h
  · split at h
    · rename_i q
      obtain ⟨q1, q2, q3, q4, q5, q6, q7⟩ := q
      obtain ⟨l, e1, e2⟩ := Option.map_eq_some_iff.mp h
      subst q1 q2 q3 q4 q5 q6 q7 e2
      exact ⟨kinItB_ok e1, rfl⟩
    · cases h
  · cases h
def kinN : List Str := [Str.ofString "e", Str.ofString "kin", Str.ofString "name", Str.ofString "there"]
def kinOwn : List (Str × Nat) := [(Str.ofString "name", 2), (Str.ofString "there", 3)]
/-- what the scopes must say -/
def kinSc (sc : Scope) (m : KinM) : Bool :=
  decide (sc.names.lookup (Str.ofString "e") = some .local) && decide (sc.names.lookup (Str.ofString "kin") = some .local) && glB sc (Str.ofString "isinstance") && m.l.all (fun p => glB sc p.2 && okN p.2) &&
    blkC kinN sc m.scope kinOwn && decide (m.scope.names.lookup (Str.ofString "name") = some .local) && decide (m.scope.names.lookup (Str.ofString "there") = some .local) && decide (m.l.length ≤ 100)
/-! ### the classes -/
structure ClsVal (mg : Str → Option Value) (cl : Str) (v : V) (cv : Value) : Prop where
  r : RelV v cv
  u : ∀ u, RelV v u → u = cv
  g : mg cl = some cv ∨ (mg cl = none ∧ bootBuiltins cl = some cv)
inductive KinRows (K : PySem.W.Frag) (mg : Str → Option Value) (D : Addr) : List (Str × Str) → List (Str × Bool) → Prop
  | nil : KinRows K mg D [] []
  | cons {nm cl : Str} {v : V} {cv : Value} {b : Bool} {l : List (Str × Str)} {r : List (Str × Bool)} : ClsVal mg cl v cv → PySem.W.kitOne K (.ref D) cv = some b → KinRows K mg D l r → KinRows K mg D ((nm, cl) :: l) ((nm, b) :: r)
theorem KinRows.len {K : PySem.W.Frag} {mg : Str → Option Value} {D : Addr} : ∀ {l : List (Str × Str)} {r : List (Str × Bool)}, KinRows K mg D l r → l.length = r.length
  | _, _, .nil => rfl
  | _, _, .cons _ _ h => congrArg Nat.succ h.len
section
variable {X : Cx}
theorem call_isX {a D : Addr} {oe : Obj} (C : ExcC X.K D) (hz : Zc (.ref D) none oe) (hf : ∃ vs, oe.data = .fields vs) (hp : (a, oe) ∈ X.pn) : CallR X (.builtin "isinstance") (rIsE X.K D a) := by
  intro pins s σ H xs us Q I r h
  obtain ⟨c, cv, b, rfl, hcv, e, q⟩ := h
  cases r with
  | cons rx rr =>
    cases rr with
    | cons rt rr =>
      cases rr
      cases rx
      have ec := hcv _ rt
      subst ec
      obtain ⟨hget, _⟩ := I.pin (a, oe) (List.mem_append.mpr (.inl hp))
      obtain ⟨vs, hv⟩ := hf
      have J : PySem.W.InstAt s.heap a oe D none := by
        obtain ⟨oc, od, oda, osl⟩ := oe
        obtain ⟨h1, h2⟩ := hz
        dsimp only at h1 h2 hv
        subst h1 h2 hv
        exact ⟨hget, rfl, rfl, trivial⟩
      exact PySem.W.kia_one (PySem.W.handS_kitx_exc C.hg C.hk C.hs C.hd C.ha C.hn C.ht C.hm) I.kIn J e (fun z => nomatch z) fun tk => ⟨.bl b, H, I.kept (t' := tk) fun _ _ z => z, rfl, q⟩
/-- the heap keeps what was there -/
def Keeps (H H' : Hp) : Prop := ∀ a o, H a = some o → H' a = some o
theorem Keeps.refl (H : Hp) : Keeps H H := fun _ _ h => h
theorem Keeps.upd {H H' : Hp} {p : Addr} {o : HO} (k : Keeps H H') (h : H' p = none) : Keeps H (upd H' p o) := fun a u e => by
  rw [upd_ne (ne_of_none (k a u e) h)]; exact k a u e
/-- the pairs that were made -/
def PairsAt (H : Hp) : List V → List (Str × Bool) → Prop
  | [], [] => True
  | v :: vs, (nm, b) :: r => (∃ q, v = .ref q ∧ H q = some (.tup [.str nm, .bl b])) ∧ PairsAt H vs r
  | _, _ => False
theorem PairsAt.keeps {H H' : Hp} (k : Keeps H H') : ∀ {vs : List V} {r : List (Str × Bool)}, PairsAt H vs r → PairsAt H' vs r
  | [], [], _ => trivial
  | v :: vs, (nm, b) :: r, ⟨⟨q, e, h⟩, t⟩ => ⟨⟨q, e, k _ _ h⟩, t.keeps k⟩
  | [], _ :: _, h => h.elim
  | _ :: _, [], h => h.elim
theorem PairsAt.len {H : Hp} : ∀ {vs : List V} {r : List (Str × Bool)}, PairsAt H vs r → vs.length = r.length
  | [], [], _ => rfl
  | v :: vs, (nm, b) :: r, ⟨_, t⟩ => congrArg Nat.succ t.len
  | [], _ :: _, h => h.elim
  | _ :: _, [], h => h.elim
theorem PairsAt.get {H : Hp} : ∀ {vs : List V} {r : List (Str × Bool)} {i : Nat}, PairsAt H vs r → i < r.length → ∃ q nm b, vs[i]? = some (.ref q) ∧ r[i]? = some (nm, b) ∧ H q = some (.tup [.str nm, .bl b])
  | [], [], i, _, hi => by simp at hi
  | v :: vs, (nm, b) :: r, 0, ⟨⟨q, e, h⟩, t⟩, _ => ⟨q, nm, b, by rw [e]; rfl, rfl, h⟩
  | v :: vs, (nm, b) :: r, i + 1, ⟨_, t⟩, hi => by
    obtain ⟨q, nm', b', h1, h2, h3⟩ := t.get (i := i) (by simpa using hi)
    exact ⟨q, nm', b', by simpa using h1, by simpa using h2, h3⟩
  | [], _ :: _, _, h, _ => h.elim
  | _ :: _, [], _, h, _ => h.elim
theorem kin_list {a D : Addr} {oe : Obj} (C : ExcC X.K D) (hz : Zc (.ref D) none oe) (hf : ∃ vs, oe.data = .fields vs) (hp : (a, oe) ∈ X.pn) (hN : X.N[0]? = some (Str.ofString "e")) (he : X.env.scope.names.lookup (Str.ofString "e") = some .local)
    (hg : Gl X (Str.ofString "isinstance")) (hm : X.mg (Str.ofString "isinstance") = none) :
    ∀ {es : List Expr} {l : List (Str × Str)} {r : List (Str × Bool)}, KinIt es l → KinRows X.K X.mg D l r → (∀ p ∈ l, Gl X p.2 ∧ okN p.2 = true) →
      ∃ t, PA X es t ∧ ∀ σ H (Q : List V → Hp → Prop), σ[0]? = some (some (.ref a)) → (∀ vs H', Keeps H H' → PairsAt H' vs r → Q vs H') → t σ H Q
  | [], _, _, .nil, .nil, _ => ⟨_, pa_nil, fun σ H Q _ h => h [] H (Keeps.refl H) trivial⟩
  | _, _, _, .cons (nm := nm) (cl := cl) hi, .cons (v := v) (cv := cv) (b := b) hc hk hr, hl => by
    obtain ⟨t, ht, hq⟩ := kin_list C hz hf hp hN he hg hm hi hr fun p h => hl p (List.mem_cons_of_mem _ h)
    obtain ⟨g1, g2⟩ := hl _ List.mem_cons_self
    have dbg := okN_dbg g2
    have hne : cl ≠ "__name__" := by
      unfold okN at g2
      simp only [Bool.and_eq_true, Bool.not_eq_true'] at g2
      intro z
      have := g2.2
      rw [z] at this
      simp at this
    have pc : ∀ pos, PE X (.Name cl pos) (tC v) := fun pos => by
      rcases hc.g with h | ⟨h1, h2⟩
      · exact pe_glob g1 h hc.r dbg
      · exact pe_bltn g1 h1 h2 hc.r hne dbg
    have pe0 : ∀ pos, PE X (.Name (Str.ofString "e") pos) (tVar 0) := fun pos => pe_var hN (.inl he) (by decide +kernel) (by decide +kernel)
    refine ⟨_, pa_cons (pe_tup (pa_cons pe_str (pa_cons (pe_callB (call_isX C hz hf hp) hg hm PyProof.Rows.boot_isinstance (pa_cons (pe0 _) (pa_cons (pc _) pa_nil)) (by decide +kernel) (by decide +kernel)) pa_nil))) ht, fun σ H Q e0 h => ?_⟩
    refine ⟨.ref a, e0, v, cv, b, rfl, hc.u, hk, by show 2 ≤ sizeLine; decide, fun p hp' => ?_⟩
    refine hq σ _ _ e0 fun vs H' k pr => h _ H' (fun x o e => k x o ((Keeps.refl H).upd hp' x o e)) ⟨⟨p, rfl, k p _ upd_same⟩, pr⟩
end
/-! ### the body -/
def Kin1 (A : Around) (D : Addr) (p : Addr × Obj) : Prop := Hot1 A p ∧ Zc (.ref D) none p.2
def namesOf (r : List (Str × Bool)) : List Str := (r.filter (·.2)).map (·.1)
/-- what the def promises of the refusal that is handled -/
def KinFn (P : Program) (w : World) (K : PySem.W.Frag) (mg : Str → Option Value) (base : Heap) (CX : CXT) (f : Addr) (fd : FuncData) (D : Addr) (ns : List Str) : Prop :=
  ∀ (A : Around) (outer : List PySem.Env) (s : Shared) (H : Hp) (us : List Value) (Q : VK) (E : XK) (p : Addr × Obj), RoomH 0 A → Kin1 A D p → PinOk outer H s p → Env0 P w K mg base A outer s H → BindsTo s fd ⟨us, []⟩ ([Str.ofString "e"].zip us) → Vals [.ref p.1] us →
    (∀ q H', Keeps H H' → H q = none → H' q = some (.lst (ns.map V.str)) → Q (.ref q) H') → codeAny (model P w) A (.call (.ref f) ⟨us, []⟩) (CR CX outer P w H s Q E) s
theorem ifT {P Q : Prop} (h : P) : (if (true = true) then P else Q) := by rw [if_pos rfl]; exact h
theorem kin_body {X : Cx} {a D : Addr} {oe : Obj} {m : KinM} {rows : List (Str × Bool)} (hot : HotC X) (C : ExcC X.K D) (hz : Zc (.ref D) none oe) (hf : ∃ vs, oe.data = .fields vs) (hp : (a, oe) ∈ X.pn) (hN : X.N = kinN) (hs : kinSc X.env.scope m = true)
    (hit : KinIt m.es m.l) (hr : KinRows X.K X.mg D m.l rows) (hm : X.mg (Str.ofString "isinstance") = none) (hfn : ∀ x, X.fn x = true) :
    ∃ t, PSs X [.Assign [.Name (Str.ofString "kin") m.kp] (.List m.es m.lp) m.ap, .Return (some (.ListComp (.Name (Str.ofString "name") m.p1) [⟨.Tuple [.Name (Str.ofString "name") m.p2, .Name (Str.ofString "there") m.p3] m.k m.tp, .Name (Str.ofString "kin") m.p4, [.Name (Str.ofString "there") m.p5], 0⟩] m.scope m.cp)) m.rp] t ∧
      ∀ H Dn, (∀ q H', Keeps H H' → H q = none → H' q = some (.lst ((namesOf rows).map V.str)) → Dn.rt (.ref q) H') → t Dn [some (.ref a), none, none, none] H := by
  simp only [kinSc, Bool.and_eq_true, decide_eq_true_eq, List.all_eq_true] at hs
  obtain ⟨⟨⟨⟨⟨⟨⟨s1, s2⟩, s3⟩, s4⟩, s5⟩, s6⟩, s7⟩, s8⟩ := hs
  have nd : X.N.Nodup := by rw [hN]; decide +kernel
  have gl : ∀ {x : Str}, glB X.env.scope x = true → Gl X x := fun {x} h => by
    unfold Gl Env.kindOf
    exact of_decide_eq_true h
  obtain ⟨t, ht, hq⟩ := kin_list C hz hf hp (by rw [hN]; rfl) s1 (gl s3) hm hit hr fun p h => ⟨gl (s4 p h).1, (s4 p h).2⟩
  have bo : BlkOk X.N X.env.scope m.scope kinOwn := by rw [hN]; exact blkOk_by s5
  have N2 : X.N[2]? = some (Str.ofString "name") := by rw [hN]; rfl
  have N3 : X.N[3]? = some (Str.ofString "there") := by rw [hN]; rfl
  have l2 : ∀ (s : Shared) (H : Hp) (C : Addr) (cl : List (Str × Addr)) (fp : List Addr), (blkH X s H m.scope (compEnvC m.scope cl C X.env) fp).env.scope.names.lookup (Str.ofString "name") = some .local := fun _ _ _ _ _ => lookup_relS_keep (by decide) s6
  have l3 : ∀ (s : Shared) (H : Hp) (C : Addr) (cl : List (Str × Addr)) (fp : List Addr), (blkH X s H m.scope (compEnvC m.scope cl C X.env) fp).env.scope.names.lookup (Str.ofString "there") = some .local := fun _ _ _ _ _ => lookup_relS_keep (by decide) s7
  have lc := pe_lcH (X := X) (elt := .Name (Str.ofString "name") m.p1) (tg := .Tuple [.Name (Str.ofString "name") m.p2, .Name (Str.ofString "there") m.p3] m.k m.tp) (iter := .Name (Str.ofString "kin") m.p4) (ifs := [.Name (Str.ofString "there") m.p5]) (pos := m.cp) (g := gTup X.K 2 (gCons (gName 2) (gCons (gName 3) gNil))) (tt := fun σ H Q => tVar 3 σ H fun x H' => ∃ k, TruV X.K x H' k ∧ Q k H') (te := tVar 2) hot nd
    (pi_listH (pe_var (i := 1) (by rw [hN]; rfl) (.inl s2) (by decide +kernel) (by decide +kernel))) bo
    (fun s H C cl fp => pg_tupH (n := 2) (HotC.blk hot s H _ _ fp) (pgs_cons (pg_name nd N2 (.inl (l2 s H C cl fp)) (.inr (l2 s H C cl fp))) (pgs_cons (pg_name nd N3 (.inl (l3 s H C cl fp)) (.inr (l3 s H C cl fp))) pgs_nil)))
    (fun s H C cl fp => pts_one (pt_truth (X := blkH X s H m.scope (compEnvC m.scope cl C X.env) fp) (pe_var (X := blkH X s H m.scope (compEnvC m.scope cl C X.env) fp) N3 (.inl (l3 s H C cl fp)) (by decide +kernel) (by decide +kernel)) fun _ => rfl))
    (fun s H C cl fp => pe_var (X := blkH X s H m.scope (compEnvC m.scope cl C X.env) fp) N2 (.inl (l2 s H C cl fp)) (by decide +kernel) (by decide +kernel))
  refine ⟨_, pss_cons (ps_set nd (i := 1) (by rw [hN]; rfl) (.inl s2) (pe_lst ht) rfl (.inl (hfn _))) (pss_cons (ps_ret lc) pss_nil), fun H Dn hd => ?_⟩
  refine hq _ H _ rfl fun vs H1 k1 pr => ⟨?_, fun pl hpl => ?_⟩
  · rw [pr.len, ← hr.len]
    exact Nat.le_trans s8 (by decide)
  show tLc (iList X.K (tVar 1)) (gTup X.K 2 (gCons (gName 2) (gCons (gName 3) gNil))) (fun σ H Q => tVar 3 σ H fun x H' => ∃ k, TruV X.K x H' k ∧ Q k H') (tVar 2) (kinOwn.map (·.2)) [some (V.ref a), some (V.ref pl), none, none] (upd H1 pl (.lst vs)) Dn.rt
  have k2 : Keeps H1 (upd H1 pl (.lst vs)) := (Keeps.refl H1).upd hpl
  have pr2 := pr.keeps k2
  have at2 : upd H1 pl (.lst vs) pl = some (.lst vs) := upd_same
  generalize upd H1 pl (.lst vs) = H2 at *
  have k12 : Keeps H H2 := fun x o e => k2 x o (k1 x o e)
  refine ⟨.ref pl, rfl, pl, rfl, ⟨vs, .inl (.inl at2)⟩, fun Dl hDl => ?_⟩
  have hDH : H Dl = none := by
    cases q : H Dl with
    | none => rfl
    | some o => rw [k12 _ _ q] at hDl; cases hDl
  refine ⟨fun i n H3 => n = rows.length - i ∧ i ≤ rows.length ∧ H3 Dl = some (.lst ((namesOf (rows.take i)).map V.str)) ∧ Keeps H2 H3, ⟨rows.length, by omega, by omega, upd_same, fun x o e => by rw [upd_ne (ne_of_none e hDl)]; exact e⟩, ?_⟩
  rintro i n H3 ⟨rfl, hi, hD3, k3⟩
  have lv := pr.len
  by_cases hlt : i < rows.length
  · obtain ⟨q, nm, b, g1, g2, g3⟩ := pr2.get hlt
    refine .inr ⟨⟨vs, .ref q, .inl (.inl (k3 _ _ at2)), g1⟩, fun H' => i + 1 ≤ rows.length ∧ H' Dl = some (.lst ((namesOf (rows.take (i + 1))).map V.str)) ∧ Keeps H2 H', fun H' h => ⟨rows.length - (i + 1), by omega, rfl, h⟩, fun x H' y => ?_⟩
    obtain ⟨rfl, hx⟩ := y
    have hx := hx vs (.inl (.inl (k3 _ _ at2)))
    rw [g1] at hx
    cases hx
    refine ⟨q, [.str nm, .bl b], rfl, .inl (.inl (k3 _ _ g3)), rfl, .str nm, [.bl b], rfl, .bl b, [], rfl, rfl, rfl, .bl b, rfl, b, rfl, ?_⟩
    have tk : rows.take (i + 1) = rows.take i ++ [(nm, b)] := by rw [List.take_succ, g2]; rfl
    have hlen : (namesOf (rows.take i)).length ≤ rows.length := by
      unfold namesOf
      rw [List.length_map]
      exact Nat.le_trans (List.length_filter_le _ _) (by rw [List.length_take]; exact Nat.min_le_right _ _)
    have nl : rows.length ≤ 100 := by rw [← hr.len]; exact s8
    cases b with
    | false =>
      show i + 1 ≤ rows.length ∧ H' Dl = some (.lst ((namesOf (rows.take (i + 1))).map V.str)) ∧ Keeps H2 H'
      refine ⟨hlt, ?_, k3⟩
      rw [hD3, tk]
      simp [namesOf]
    | true =>
      refine ifT ?_
      refine ⟨.str nm, rfl, _, hD3, ?_, hlt, ?_, fun x o e => ?_⟩
      · rw [List.length_map]
        exact Nat.lt_of_le_of_lt (Nat.le_trans hlen nl) (by decide)
      · rw [upd_same, tk]
        simp [namesOf]
      · have := k3 x o e
        rw [upd_ne (ne_of_none e hDl)]
        exact this
  · have e : i = rows.length := by omega
    subst e
    refine .inl ⟨⟨vs, .inl (.inl (k3 _ _ at2)), by omega⟩, hd _ _ (fun x o e => k3 x o (k12 x o e)) hDH ?_⟩
    rw [hD3, List.take_length]
/-! ### `_law_kin`, its promise; its call -/
theorem kinFn_of {P : Program} {w : World} {K : PySem.W.Frag} {mg : Str → Option Value} {base : Heap} {CX : CXT} {f D : Addr} {fd : FuncData} {x : Str} {params : Arguments} {body : List Stmt} {scope : Scope} {dvs : List V} {kws : List (Str × V)} {m : KinM} {rows : List (Str × Bool)}
    (Fu : FunD K x x params body scope dvs kws f fd) (S : FnScope kinN [Str.ofString "e"] scope) (hm : kinBody body = some m) (hs : kinSc scope m = true) (C : ExcC K D) (hr : KinRows K mg D m.l rows) (hi : mg (Str.ofString "isinstance") = none) : KinFn P w K mg base CX f fd D (namesOf rows) := by
  intro A outer s H us Q E p hroom ⟨hot, hz⟩ hpin e0 hb r h
  obtain ⟨oc, od, dV, kV, doc, pm, an, cdv, ct, osl, rfl, lk, hcd, _, _⟩ := Fu.ex
  have hl : ([V.ref p.1]).length = ([Str.ofString "e"] : List Str).length := rfl
  have KX : K.In s.heap := e0.mod.kin.keeps fun b o e => (e0.bs b o e).1
  have lim : s.heap.NoLimit := e0.mod.nolimit.keeps fun b o e => (e0.bs b o e).1
  have hkind : ∀ y ∈ [Str.ofString "e"].zip us, scope.names.lookup y.1 = some .local ∨ (scope.names.lookup y.1 = some .cell ∧ ((cellsFrom (s.heap.objs.size + 1) scope.names []).lookup y.1).isSome = true) := fun ⟨n, v⟩ hy => by
    rcases S.par n (List.of_mem_zip hy).1 with q | q
    · exact .inl q
    · exact .inr ⟨q, PySem.W.cellsFrom_some _ _ _ (.inl q)⟩
  refine codeAny_call_function hroom.depth (KX _ _ lk) rfl S.co S.gen rfl (PySem.W.codeRec_of KX hcd) (hb _ _ _ _ ?_)
  refine wpAny_newFunctionEnv_cells S.kind hkind fun env he s1 x1 => ?_
  subst he
  refine ⟨lim.keeps x1.toInCall.keep, codeAny_func ?_⟩
  have I : Inv (cxH CX P w K mg base kinN x scope f cdv A outer s H E p) [] (L2.start kinN [.ref p.1]) H s1 := inv_startH S hpin e0 hl r x1
  obtain ⟨hh, vs0, hv0, hc0⟩ := hot
  obtain ⟨hit, eb⟩ := kinBody_eq hm
  obtain ⟨t, ht, hq⟩ := kin_body (X := cxH CX P w K mg base kinN x scope f cdv A outer s H E p) (a := p.1) (oe := p.2) (m := m) (rows := rows) ⟨p, ⟨hh, vs0, hv0, hc0⟩, List.mem_singleton.mpr rfl⟩ C hz ⟨vs0, hv0⟩ (List.mem_singleton.mpr rfl) rfl hs hit hr hi (fun _ => rfl)
  rw [← eb] at ht
  refine wpAny_mono (ht.run [] s1 (L2.start kinN [.ref p.1]) H { nx := fun _ H' => Q .non H', rt := Q } I (hq H _ h)) (fun fl s' hs => ?_) fun e s' hs => hs
  have fin : ∀ {σ' : L2.St} {H' : Hp} {v : V} {u : Value}, Inv (cxH CX P w K mg base kinN x scope f cdv A outer s H E p) [] σ' H' s' → RelV v u → Q v H' → CE outer P w H s Q u s' :=
    fun {σ' H' v u} J rv q => ⟨v, H', J.os, J.bare, J.base, J.hok, rv, q⟩
  cases fl with
  | ret u =>
    obtain ⟨v, σ', H', J, rv, q⟩ := hs
    exact fin J rv q
  | next =>
    obtain ⟨σ', H', J, q⟩ := hs
    exact fin (v := V.non) (u := Value.none) J rfl q
  | brk =>
    obtain ⟨_, _, _, q⟩ := hs
    exact False.elim q
  | cont =>
    obtain ⟨_, _, _, q⟩ := hs
    exact False.elim q
theorem pe_kin {X : Cx} {a D : Addr} {oe : Obj} {pn : List (Addr × Obj)} {ns : List Str} {f : Addr} {fd : FuncData} {i : Nat} {x en : Str} {p ep pos : Pos} (hz : L2N.Zn (.ref D) none oe) (hf : ∃ vs, oe.data = .fields vs) (hr : RoomH 0 X.A) (hg : Gl X x) (hm : X.mg x = some (.ref f))
    (hk : PySem.W.keepIn X.K (.ref f) = true) (hb : Binds X.K fd [Str.ofString "e"] []) (F : KinFn X.prog X.w X.K X.mg X.base (L2N.CX X.prog X.w) f fd D ns) (hN : X.N[i]? = some en) (hv : Vis X.env.scope en) (hen : okN en = true) (hdb : (x == ("__debug__" : Str)) = false) :
    PE (X.suite a ((a, oe) :: pn)) (.Call (.Name x p) [.Name en ep] [] pos) (fun σ H Q => σ[i]? = some (some (.ref a)) ∧ ∀ q H', Keeps H H' → H q = none → H' q = some (.lst (ns.map V.str)) → Q (.ref q) H') := by
  refine ⟨fun pins s σ H Q I h => ?_⟩
  obtain ⟨he, h⟩ := h
  refine wpAny_Call_Name_kw (ld_glob I hg hm ?_ hdb)
  have ha : PA (X.suite a ((a, oe) :: pn)) [.Name en ep] (tCons (tVar i) tNil) := pa_cons (pe_var hN hv (okN_dbg hen) (okN_cd hen)) pa_nil
  refine PySem.W.callWith_K (h₀ := X.base) I.ok.mod.kin hk (thn (ha.run pos pins s σ H (fun vs H1 => vs = [.ref a] ∧ H1 = H) I ⟨.ref a, he, rfl, rfl⟩) fun us s1 ⟨vs, H1, I1, r, q⟩ => ⟨I1.kIn, ?_⟩) rfl rfl
  obtain ⟨rfl, rfl⟩ := q
  have P1 := I1.pin (a, oe) (List.mem_append_left _ List.mem_cons_self)
  have hpin : PinOk X.stack H1 s1 (a, oe) := ⟨P1.1, P1.2.1, fun hm => (List.mem_cons.mp (I1.stkSub a hm)).elim P1.2.2.1 P1.2.2.2.1, P1.2.2.2.2⟩
  have b := hb s1 us I1.kIn (by rw [List.append_nil, ← r.length]; rfl)
  rw [List.append_nil] at b
  obtain ⟨vs0, hv0⟩ := hf
  refine wpAny_call (codeAny_mono (F (X.A.mark (some (.ref a))) X.stack s1 H1 us Q (fun _ _ _ => False) (a, oe) ⟨hr.dp, hr.un⟩ ⟨⟨rfl, vs0, hv0, hz.2.2 vs0 hv0⟩, hz.zc⟩ hpin I1.env0 b r h) fun r s' hq => ?_)
  cases r with
  | error e =>
    obtain ⟨_, _, _, _, _, _, _, _, _, _, _, _, z⟩ := hq
    exact z.elim
  | ok fl =>
    cases fl with
    | ret u => exact I1.after hq
    | next => exact False.elim hq
    | brk => exact False.elim hq
    | cont => exact False.elim hq
end Rv
/-! Expressions: what evaluates runs. -/
namespace Rv
open PySem PySem.Spec PyProof.Rows L2
section
variable {K : PySem.W.Frag} {Wc : Nat → L2.St → Hp → Prop} {σ : L2.St} {H : Hp} {B : Bs} {F : Addr → Prop} {ρ : Env}
theorem tG_test {f : Env → R D} {fr : Bool} {Q : Bool → Hp → Prop} (h : tG K B Wc rEq (fun ρ => truB (f ρ)) σ H Q) : tG K B Wc (rV K fr) f σ H fun x H' => ∃ k, x = .bl k ∧ Q k H' := by
  obtain ⟨ρ, F, st, o⟩ := h
  refine ⟨ρ, F, st, ?_⟩
  dsimp only at o
  cases e : f ρ with
  | ok d =>
    rw [e] at o
    cases d <;> try exact o.elim
    intro v F' H' e1 r
    cases (VD.rep r (by simp) : Rep K F' H' v _)
    exact ⟨_, rfl, o _ F' H' e1 rfl⟩
  | exc c => rw [e] at o; exact o
  | stk => rw [e] at o; exact o
/-- a test, then the rest -/
theorem oc_test {δ γ : Type} {rel' : (Addr → Prop) → Hp → (Addr → Prop) → Hp → δ → γ → Prop} [Late rel'] {f : Env → R Bool} {g : Bool → R γ} {Q : δ → Hp → Prop} (st : StOk K B σ ρ F H) (o : Oc rel' (fun c => Wc c σ) F H Q ((f ρ).bind g)) :
    tG K B Wc rEq f σ H fun b H1 => ∃ F1, Ext F F1 H H1 ∧ StOk K B σ ρ F1 H1 ∧ Oc rel' (fun c => Wc c σ) F1 H1 Q (g b) := by
  refine (oc_bind (rel := rEq) st o).imp fun b H1 ⟨F1, a, e1, st1, e, o1⟩ => ?_
  have e : b = a := e
  subst e
  exact ⟨F1, e1, st1, o1⟩
/-- a value that is a bool, then the rest -/
theorem oc_bool {δ γ : Type} {fr : Bool} {rel' : (Addr → Prop) → Hp → (Addr → Prop) → Hp → δ → γ → Prop} [Late rel'] {f : Env → R D} {g : Bool → R γ} {Q : δ → Hp → Prop} (st : StOk K B σ ρ F H) (o : Oc rel' (fun c => Wc c σ) F H Q ((truB (f ρ)).bind g)) :
    tG K B Wc (rV K fr) f σ H fun x H1 => ∃ b, x = .bl b ∧ ∃ F1, Ext F F1 H H1 ∧ StOk K B σ ρ F1 H1 ∧ Oc rel' (fun c => Wc c σ) F1 H1 Q (g b) :=
  (tG_test (oc_test (f := fun ρ => truB (f ρ)) st o))
theorem oc_bl {fr : Bool} {W : Nat → Hp → Prop} {Q : VK} {b : Bool} (h : Oc (rV K fr) W F H Q (.ok (.bl b))) : Q (.bl b) H := h _ F H Ext.refl (VD.of (.bl b) (by simp))
theorem oc_to {fr fr' : Bool} {W : Nat → Hp → Prop} {Q : VK} {r : R D} (hr : ∀ d, r = .ok d → ∀ ds, d ≠ .lst ds) (h : Oc (rV K fr) W F H Q r) : Oc (rV K fr') W F H Q r := by
  cases r with
  | ok d => exact fun v F' H' e q => h v F' H' e (VD.of (q.rep (hr d rfl)) (hr d rfl))
  | exc c => exact h
  | stk => exact h
/-- a new list may be frozen at once -/
theorem tG_sh {f : Env → R D} {fr : Bool} {Q : VK} (h : tG K B Wc (rSh K) f σ H Q) : tG K B Wc (rV K fr) f σ H Q := by
  obtain ⟨ρ, F, st, o⟩ := h
  refine ⟨ρ, F, st, ?_⟩
  cases e : f ρ with
  | ok d =>
    rw [e] at o
    intro v F' H' e1 r
    obtain ⟨F2, e2, r2⟩ := VD.sh e1 r
    exact o v F2 H' e2 r2
  | exc c => rw [e] at o; exact o
  | stk => rw [e] at o; exact o
/-- looked into alone -/
theorem tG_x {f : Env → R D} {fr : Bool} {Q : VK} (h : tG K B Wc (rX K) f σ H Q) : tG K B Wc (rV K fr) f σ H Q := by
  obtain ⟨ρ, F, st, o⟩ := h
  refine ⟨ρ, F, st, ?_⟩
  cases e : f ρ with
  | ok d =>
    rw [e] at o
    exact fun v F' H' e1 r => o v F' H' e1 r.x
  | exc c => rw [e] at o; exact o
  | stk => rw [e] at o; exact o
theorem tG_fr {f : Env → R D} {fr : Bool} {Q : VK} (h : tG K B Wc (rV K false) f σ H Q) : tG K B Wc (rV K fr) f σ H Q := tG_sh h
end
theorem ev_true {Φ : Nat → List D → R D} {C : Nat → D} {ρ : Env} : ∀ {e : Ex}, (∀ i, e ≠ .var i) → ev Φ C ρ true e = ev Φ C ρ false e := by
  intro e h
  cases e <;> first | rfl | exact absurd rfl (h _)
section
variable (T : Tab) (N : List Str) (n : Nat) (Φ : Nat → List D → R D) (C : Nat → D) (ca : Nat → Addr)
def OkE (e : Ex) : Prop := ∀ (x : Expr) (sc : Scope) (fn : Str → Bool) (X : Cx) (W : WX), GX T N n Φ C ca sc fn X W → chkE T N sc e x = true → ∀ B : Bs,
  PE X x (tG X.K B (wn ca W) (rV X.K (isFr e)) fun ρ => ev Φ C ρ false e) ∧ PT X x (tG X.K B (wn ca W) rEq fun ρ => truB (ev Φ C ρ false e))
def OkEs (es : Exs) : Prop := ∀ (xs : List Expr) (sc : Scope) (fn : Str → Bool) (X : Cx) (W : WX), GX T N n Φ C ca sc fn X W → chkEs T N sc es xs = true → ∀ B : Bs,
  PA X xs (tG X.K B (wn ca W) (rShs X.K) fun ρ => evs Φ C ρ false es) ∧ PA X xs (tG X.K B (wn ca W) (rXs X.K) fun ρ => evs Φ C ρ true es)
def OkO (e : Eo) : Prop := (∀ (x : Option Expr) (sc : Scope) (fn : Str → Bool) (X : Cx) (W : WX), GX T N n Φ C ca sc fn X W → chkO T N sc e x = true → ∀ B : Bs, PO X x (tG X.K B (wn ca W) rEq fun ρ => evo Φ C ρ e)) ∧
  ∀ (xs : List Expr) (sc : Scope) (fn : Str → Bool) (X : Cx) (W : WX), GX T N n Φ C ca sc fn X W → chkC T N sc e xs = true → ∀ B : Bs, PTs X xs (tG X.K B (wn ca W) rEq fun ρ => evc Φ C ρ e)
end
section
variable {T : Tab} {N : List Str} {n : Nat} {Φ : Nat → List D → R D} {C : Nat → D} {ca : Nat → Addr} {sc : Scope} {fn : Str → Bool} {X : Cx} {W : WX} {B : Bs}
/-- a PE and its test, by a reading -/
theorem both_of {x : Expr} {f : Env → R D} {fr : Bool} {t : TE} (h : PE X x t) (ht : PT X x fun σ H Q => t σ H fun y H' => ∃ k, y = .bl k ∧ Q k H') (k : ∀ σ H Q, tG X.K B (wn ca W) (rV X.K fr) f σ H Q → t σ H Q) :
    PE X x (tG X.K B (wn ca W) (rV X.K fr) f) ∧ PT X x (tG X.K B (wn ca W) rEq fun ρ => truB (f ρ)) :=
  ⟨PE.imp h k, PT.imp ht fun σ H Q q => k _ _ _ (tG_test q)⟩
def defT : Expr → Bool
  | .UnaryOp .Not _ _ => false
  | .BoolOp _ _ _ => false
  | .IfExp _ _ _ _ => false
  | .Compare _ _ _ _ => false
  | _ => true
theorem pt_def {x : Expr} {t : TE} (h : PE X x t) (hd : defT x = true) : PT X x fun σ H Q => t σ H fun y H' => ∃ k, y = .bl k ∧ Q k H' := by
  refine pt_val h fun whole => ?_
  cases x <;> first
    | rfl
    | (cases hd; done)
    | (rename_i op _ _; cases op <;> first | rfl | (cases hd; done))
theorem both_def {x : Expr} {f : Env → R D} {fr : Bool} {t : TE} (h : PE X x t) (hd : defT x = true) (k : ∀ σ H Q, tG X.K B (wn ca W) (rV X.K fr) f σ H Q → t σ H Q) :
    PE X x (tG X.K B (wn ca W) (rV X.K fr) f) ∧ PT X x (tG X.K B (wn ca W) rEq fun ρ => truB (f ρ)) := both_of h (pt_def h hd) k
theorem ok_var (i : Nat) : OkE T N n Φ C ca (.var i) := by
  intro x sc fn X W G h B
  cases x <;> try (cases h; done)
  simp only [chkE, Bool.and_eq_true, decide_eq_true_eq] at h
  obtain ⟨⟨h1, h2⟩, h3⟩ := h
  refine both_def (pe_var (i := i) (by rw [G.names]; exact h1) (G.vis h2) (okN_dbg h3) (okN_cd h3)) rfl fun σ H Q ⟨ρ, F, st, o⟩ => ?_
  dsimp only [ev] at o
  split at o
  · rename_i d e
    obtain ⟨v, e1, r⟩ := st.sl i _ e
    exact ⟨v, e1, o v F H Ext.refl r⟩
  · exact o.elim
  · exact o.elim
theorem x_var {i : Nat} {x : Expr} (G : GX T N n Φ C ca sc fn X W) (h : chkE T N sc (.var i) x = true) (B : Bs) : PE X x (tG X.K B (wn ca W) (rX X.K) fun ρ => ev Φ C ρ true (.var i)) := by
  cases x <;> try (cases h; done)
  simp only [chkE, Bool.and_eq_true, decide_eq_true_eq] at h
  obtain ⟨⟨h1, h2⟩, h3⟩ := h
  refine PE.imp (pe_var (i := i) (by rw [G.names]; exact h1) (G.vis h2) (okN_dbg h3) (okN_cd h3)) fun σ H Q ⟨ρ, F, st, o⟩ => ?_
  dsimp only [ev] at o
  split at o
  · rename_i d e
    obtain ⟨v, e1, r⟩ := st.sl i _ e
    exact ⟨v, e1, o v F H Ext.refl r.x⟩
  · rename_i d e
    have q := st.sl i _ e
    obtain ⟨a, xs, e1, _, _, e2, r⟩ := q
    exact ⟨_, e1, o _ F H Ext.refl (.inr ⟨a, xs, _, rfl, rfl, e2, r⟩)⟩
  · exact o.elim
/-- .. looked into -/
theorem OkE.x {e : Ex} (ok : OkE T N n Φ C ca e) {x : Expr} (G : GX T N n Φ C ca sc fn X W) (h : chkE T N sc e x = true) (B : Bs) : PE X x (tG X.K B (wn ca W) (rX X.K) fun ρ => ev Φ C ρ true e) := by
  by_cases hv : ∃ i, e = .var i
  · obtain ⟨i, rfl⟩ := hv
    exact x_var G h B
  · have e1 : (fun ρ => ev Φ C ρ true e) = fun ρ => ev Φ C ρ false e := funext fun ρ => ev_true fun i q => hv ⟨i, q⟩
    rw [e1]
    exact PE.imp (ok x sc fn X W G h B).1 fun σ H Q q => tG_x q
/-- .. frozen where it is a new list -/
theorem OkE.sh {e : Ex} (ok : OkE T N n Φ C ca e) {x : Expr} (G : GX T N n Φ C ca sc fn X W) (h : chkE T N sc e x = true) (B : Bs) : PE X x (tG X.K B (wn ca W) (rSh X.K) fun ρ => ev Φ C ρ false e) :=
  PE.imp (ok x sc fn X W G h B).1 fun σ H Q q => tG_sh q
theorem OkE.tst {e : Ex} (ok : OkE T N n Φ C ca e) {x : Expr} (G : GX T N n Φ C ca sc fn X W) (h : chkE T N sc e x = true) (B : Bs) : PT X x (tG X.K B (wn ca W) rEq fun ρ => truB (ev Φ C ρ false e)) := (ok x sc fn X W G h B).2
theorem ok_glb (g : Nat) : OkE T N n Φ C ca (.glb g) := by
  intro x sc fn X W G h B
  cases x <;> try (cases h; done)
  simp only [chkE, Bool.and_eq_true, decide_eq_true_eq] at h
  obtain ⟨⟨h1, h2⟩, h3⟩ := h
  obtain ⟨v, u, e1, r, hr⟩ := G.cns _ _ h1
  exact both_def (pe_glob (G.gl h2) e1 r (okN_dbg h3)) rfl fun σ H Q ⟨ρ, F, st, o⟩ => o v F H Ext.refl (hr F H)
theorem ok_non : OkE T N n Φ C ca .non := by
  intro x sc fn X W G h B
  cases x <;> try (cases h; done)
  rename_i c k p
  cases c <;> try (cases h; done)
  exact both_def pe_non rfl fun σ H Q ⟨ρ, F, st, o⟩ => o .non F H Ext.refl .non
theorem ok_bl (b : Bool) : OkE T N n Φ C ca (.bl b) := by
  intro x sc fn X W G h B
  cases x <;> try (cases h; done)
  rename_i c k p
  cases c <;> try (cases h; done)
  have e := of_decide_eq_true h
  subst e
  exact both_def pe_bl rfl fun σ H Q ⟨ρ, F, st, o⟩ => o (.bl b) F H Ext.refl (.bl b)
theorem ok_int (i : Int) : OkE T N n Φ C ca (.int i) := by
  intro x sc fn X W G h B
  cases x <;> try (cases h; done)
  rename_i c k p
  cases c <;> try (cases h; done)
  have e := of_decide_eq_true h
  subst e
  exact both_def pe_int rfl fun σ H Q ⟨ρ, F, st, o⟩ => o (.int i) F H Ext.refl (.int i)
theorem ok_str (s : Str) : OkE T N n Φ C ca (.str s) := by
  intro x sc fn X W G h B
  cases x <;> try (cases h; done)
  rename_i c k p
  cases c <;> try (cases h; done)
  have e := of_decide_eq_true h
  subst e
  exact both_def pe_str rfl fun σ H Q ⟨ρ, F, st, o⟩ => o (.str s) F H Ext.refl (.str s)
theorem bin_noexc {o : Bo} {x y : D} {c : Nat} : bin o x y ≠ .exc c := by
  intro h
  unfold bin at h
  split at h <;> first | (cases h; done) | (split at h <;> cases h)
theorem cmp_noexc {o : Co} {x y : D} {c : Nat} : cmpV o x y ≠ .exc c := by
  intro h
  unfold cmpV at h
  split at h <;> first | (cases h; done) | (split at h <;> first | (cases h; done) | (split at h <;> cases h))
theorem ofB_noexc {r : R Bool} (h : ∀ c, r ≠ .exc c) (c : Nat) : ofB r ≠ .exc c := by
  intro q
  cases r with
  | ok b => cases q
  | exc d => exact h d rfl
  | stk => cases q
theorem ok_bin {o : Bo} {a b : Ex} (oa : OkE T N n Φ C ca a) (ob : OkE T N n Φ C ca b) : OkE T N n Φ C ca (.bin o a b) := by
  intro x sc fn X W G h B
  cases x <;> try (cases h; done)
  simp only [chkE, Bool.and_eq_true] at h
  obtain ⟨⟨h1, h2⟩, h3⟩ := h
  have e := of_decide_eq_true h1
  subst e
  exact both_def (pe_op (op_bin o) (oa.x G h2 B) (ob.x G h3 B)) rfl fun σ H Q q => tG_op (fun _ _ _ => bin_noexc) q
theorem ok_neg {a : Ex} (oa : OkE T N n Φ C ca a) : OkE T N n Φ C ca (.neg a) := by
  intro x sc fn X W G h B
  cases x <;> try (cases h; done)
  rename_i op y p
  cases op <;> try (cases h; done)
  refine both_def (pe_un (un_data (fr := false)) (oa.sh G h B)) rfl fun σ H Q ⟨ρ, F, st, o⟩ => ?_
  have o' : Oc (rV X.K false) (fun c => wn ca W c σ) F H Q ((ev Φ C ρ false a).bind fun d => ofInt (.ok d) fun i => .ok (.int (-i))) := by
    dsimp only [ev] at o
    cases e : ev Φ C ρ false a <;> rw [e] at o <;> exact o
  refine (oc_bind (rel := rSh X.K) (f := fun ρ => ev Φ C ρ false a) st o').imp fun v H1 ⟨F1, d, e1, st1, r, o1⟩ => ⟨F1, d, st1.dom, .inl r, ?_⟩
  cases d <;> try exact o1.elim
  exact o1
theorem units_of (G : GX T N n Φ C ca sc fn X W) : X.A.units + 64 < cLine := G.room.units
theorem ok_cmp {o : Co} {a b : Ex} (oa : OkE T N n Φ C ca a) (ob : OkE T N n Φ C ca b) : OkE T N n Φ C ca (.cmp o a b) := by
  intro x sc fn X W G h B
  cases x <;> try (cases h; done)
  rename_i l ops cs p
  rcases ops with _ | ⟨q, _ | ⟨q2, ops⟩⟩ <;> try (cases h; done)
  rcases cs with _ | ⟨y, _ | ⟨y2, cs⟩⟩ <;> try (cases h; done)
  simp only [chkE, Bool.and_eq_true] at h
  obtain ⟨⟨h1, h2⟩, h3⟩ := h
  have e := of_decide_eq_true h1
  subst e
  exact both_of (pe_cmpR (op_cmp (units_of G) o) (oa.x G h2 B) (ob.x G h3 B) (nomarkB y o)) (pt_cmpR (op_cmp (units_of G) o) (oa.x G h2 B) (ob.x G h3 B) (nomarkB y o))
    fun σ H Q q => tG_op (fun _ _ c => ofB_noexc (fun _ => cmp_noexc) c) q
theorem ok_cmp2 {o o' : Co} {a b c : Ex} (oa : OkE T N n Φ C ca a) (ob : OkE T N n Φ C ca b) (oc : OkE T N n Φ C ca c) : OkE T N n Φ C ca (.cmp2 o o' a b c) := by
  intro x sc fn X W G h B
  cases x <;> try (cases h; done)
  rename_i l ops cs p
  rcases ops with _ | ⟨q, _ | ⟨q2, _ | ⟨q3, ops⟩⟩⟩ <;> try (cases h; done)
  rcases cs with _ | ⟨y, _ | ⟨z, _ | ⟨z3, cs⟩⟩⟩ <;> try (cases h; done)
  simp only [chkE, Bool.and_eq_true] at h
  obtain ⟨⟨⟨⟨h1, h2⟩, h3⟩, h4⟩, h5⟩ := h
  have e := of_decide_eq_true h1
  have e2 := of_decide_eq_true h2
  subst e e2
  have hm : lastMarks [cOf o, cOf o'] [y, z] = false := nomarkB z o'
  refine both_of (pe_chain (op_cmp (fr := false) (units_of G) o) (op_cmp (fr := false) (units_of G) o') (oa.sh G h3 B) (ob.sh G h4 B) (oc.sh G h5 B) hm)
    (pt_chain (op_cmp (fr := false) (units_of G) o) (op_cmp (fr := false) (units_of G) o') (oa.sh G h3 B) (ob.sh G h4 B) (oc.sh G h5 B) hm) fun σ H Q ⟨ρ, F, st, o1⟩ => ?_
  refine (oc_bind (rel := rSh X.K) (f := fun ρ => ev Φ C ρ false a) st o1).imp fun v1 H1 ⟨F1, d1, e1, st1, r1, o2⟩ => ?_
  refine (oc_bind (rel := rSh X.K) (f := fun ρ => ev Φ C ρ false b) st1 o2).imp fun v2 H2 ⟨F2, d2, e2, st2, r2, o3⟩ => ?_
  refine ⟨F2, d1, d2, st2.dom, .inl (r1.ext e2), .inl r2, ?_⟩
  cases q : cmpV o d1 d2 with
  | exc c => exact absurd q cmp_noexc
  | stk => rw [q] at o3; exact o3.elim
  | ok k =>
    rw [q] at o3
    dsimp only
    rw [q]
    intro v F' H' e3 rv
    cases (VD.rep rv (by simp) : Rep X.K F' H' v _)
    refine ⟨k, rfl, ?_⟩
    cases k with
    | false => exact (o3 : Oc _ _ _ _ _ _) _ F' H' e3 (VD.of (.bl false) (by simp))
    | true =>
      refine (oc_bind (rel := rSh X.K) (f := fun ρ => ev Φ C ρ false c) (st2.mono e3) (Oc.ext e3 o3)).imp fun v3 H3 ⟨F3, d3, e4, st3, r3, o4⟩ => ?_
      refine ⟨F3, d2, d3, st3.dom, .inl ((r2.ext e3).ext e4), .inl r3, ?_⟩
      cases q2 : cmpV o' d2 d3 with
      | exc c => exact absurd q2 cmp_noexc
      | stk => rw [q2] at o4; exact o4.elim
      | ok k2 => rw [q2] at o4; dsimp only; rw [q2]; exact o4
theorem pw_of {op : BoolOp} {vs : List Expr} {p : Pos} {t : TT} (h : PT X (.BoolOp op vs p) t) : PW X (.BoolOp op vs p) t := ⟨fun wh pins s σ H Q I q => h.run pins s σ H Q I q⟩
theorem pe_ands {x y : Expr} {r : List Expr} {p : Pos} {op : BoolOp} {te : TE} {tt : TT} (hr : r = [] → PE X y te ∧ PT X y tt) (hc : ∀ z r', r = z :: r' → PE X (.BoolOp op (y :: z :: r') p) te ∧ PT X (.BoolOp op (y :: z :: r') p) tt) :
    PE X (.BoolOp op (y :: r) p) te ∧ PW X (.BoolOp op (y :: r) p) tt := by
  cases r with
  | nil =>
    obtain ⟨h1, h2⟩ := hr rfl
    refine ⟨pe_one h1, ?_⟩
    cases op with
    | And => exact pw_and1 h2
    | Or => exact pw_or1 h2
  | cons z r' =>
    obtain ⟨h1, h2⟩ := hc z r' rfl
    exact ⟨h1, pw_of h2⟩
theorem ok_and {a b : Ex} (oa : OkE T N n Φ C ca a) (ob : OkE T N n Φ C ca b) : OkE T N n Φ C ca (.and a b) := by
  intro x sc fn X W G h B
  cases x <;> try (cases h; done)
  rename_i op vs p
  cases op <;> try (cases h; done)
  rcases vs with _ | ⟨x, _ | ⟨y, r⟩⟩ <;> try (cases h; done)
  simp only [chkE, Bool.and_eq_true] at h
  obtain ⟨h1, h2⟩ := h
  obtain ⟨e2, t2⟩ := pe_ands (X := X) (x := x) (y := y) (r := r) (p := p) (op := .And) (te := tG X.K B (wn ca W) (rV X.K (isFr b)) fun ρ => ev Φ C ρ false b) (tt := tG X.K B (wn ca W) rEq fun ρ => truB (ev Φ C ρ false b))
    (fun e => by subst e; exact ob y sc fn X W G h2 B) (fun z r' e => by subst e; exact ob _ sc fn X W G h2 B)
  refine ⟨PE.imp (pe_and (oa x sc fn X W G h1 B).1 e2) fun σ H Q ⟨ρ, F, st, o⟩ => ?_, PT.imp (pw_and (oa.tst G h1 B) t2).pt fun σ H Q ⟨ρ, F, st, o⟩ => ?_⟩
  · refine (oc_bool st o).imp fun v H1 ⟨k, e, F1, e1, st1, o1⟩ => ⟨k, e, ?_⟩
    cases k with
    | true =>
      refine (tG_test (f := fun ρ => ev Φ C ρ false b) (Q := fun k H => Q (.bl k) H) ⟨ρ, F1, st1, ?_⟩).imp fun v2 H2 ⟨k2, e2, q2⟩ => by rw [e2]; exact q2
      have o2 : Oc (rV X.K false) (fun c => wn ca W c σ) F1 H1 Q (ofB (truB (ev Φ C ρ false b))) := o1
      dsimp only
      cases q : truB (ev Φ C ρ false b) with
      | ok k2 =>
        rw [q] at o2
        intro k3 F' H' e3 e4
        have e4 : k3 = k2 := e4
        subst e4
        exact o2 _ F' H' e3 (.bl _)
      | exc c => rw [q] at o2; exact o2
      | stk => rw [q] at o2; exact o2
    | false => exact oc_bl (fr := false) o1
  · have o' : Oc rEq (fun c => wn ca W c σ) F H Q ((truB (ev Φ C ρ false a)).bind fun k => if k then truB (ev Φ C ρ false b) else .ok false) := by
      dsimp only [ev] at o
      cases q : truB (ev Φ C ρ false a) with
      | ok k =>
        rw [q] at o
        cases k with
        | true =>
          have o2 : Oc rEq (fun c => wn ca W c σ) F H Q (truB (ofB (truB (ev Φ C ρ false b)))) := o
          rw [truB_ofB] at o2; exact o2
        | false => exact o
      | exc c => rw [q] at o; exact o
      | stk => rw [q] at o; exact o
    refine (oc_test (f := fun ρ => truB (ev Φ C ρ false a)) st o').imp fun k H1 ⟨F1, e1, st1, o1⟩ => ?_
    cases k with
    | true => exact ⟨ρ, F1, st1, o1⟩
    | false => exact o1 false F1 H1 Ext.refl rfl
theorem ok_or {a b : Ex} (oa : OkE T N n Φ C ca a) (ob : OkE T N n Φ C ca b) : OkE T N n Φ C ca (.or a b) := by
  intro x sc fn X W G h B
  cases x <;> try (cases h; done)
  rename_i op vs p
  cases op <;> try (cases h; done)
  rcases vs with _ | ⟨x, _ | ⟨y, r⟩⟩ <;> try (cases h; done)
  simp only [chkE, Bool.and_eq_true] at h
  obtain ⟨h1, h2⟩ := h
  obtain ⟨e2, t2⟩ := pe_ands (X := X) (x := x) (y := y) (r := r) (p := p) (op := .Or) (te := tG X.K B (wn ca W) (rV X.K (isFr b)) fun ρ => ev Φ C ρ false b) (tt := tG X.K B (wn ca W) rEq fun ρ => truB (ev Φ C ρ false b))
    (fun e => by subst e; exact ob y sc fn X W G h2 B) (fun z r' e => by subst e; exact ob _ sc fn X W G h2 B)
  refine ⟨PE.imp (pe_or (oa x sc fn X W G h1 B).1 e2) fun σ H Q ⟨ρ, F, st, o⟩ => ?_, PT.imp (pw_or (oa.tst G h1 B) t2).pt fun σ H Q ⟨ρ, F, st, o⟩ => ?_⟩
  · refine (oc_bool st o).imp fun v H1 ⟨k, e, F1, e1, st1, o1⟩ => ⟨k, e, ?_⟩
    cases k with
    | false =>
      refine (tG_test (f := fun ρ => ev Φ C ρ false b) (Q := fun k H => Q (.bl k) H) ⟨ρ, F1, st1, ?_⟩).imp fun v2 H2 ⟨k2, e2, q2⟩ => by rw [e2]; exact q2
      have o2 : Oc (rV X.K false) (fun c => wn ca W c σ) F1 H1 Q (ofB (truB (ev Φ C ρ false b))) := o1
      dsimp only
      cases q : truB (ev Φ C ρ false b) with
      | ok k2 =>
        rw [q] at o2
        intro k3 F' H' e3 e4
        have e4 : k3 = k2 := e4
        subst e4
        exact o2 _ F' H' e3 (.bl _)
      | exc c => rw [q] at o2; exact o2
      | stk => rw [q] at o2; exact o2
    | true => exact oc_bl (fr := false) o1
  · have o' : Oc rEq (fun c => wn ca W c σ) F H Q ((truB (ev Φ C ρ false a)).bind fun k => if k then .ok true else truB (ev Φ C ρ false b)) := by
      dsimp only [ev] at o
      cases q : truB (ev Φ C ρ false a) with
      | ok k =>
        rw [q] at o
        cases k with
        | false =>
          have o2 : Oc rEq (fun c => wn ca W c σ) F H Q (truB (ofB (truB (ev Φ C ρ false b)))) := o
          rw [truB_ofB] at o2; exact o2
        | true => exact o
      | exc c => rw [q] at o; exact o
      | stk => rw [q] at o; exact o
    refine (oc_test (f := fun ρ => truB (ev Φ C ρ false a)) st o').imp fun k H1 ⟨F1, e1, st1, o1⟩ => ?_
    cases k with
    | false => exact ⟨ρ, F1, st1, o1⟩
    | true => exact o1 true F1 H1 Ext.refl rfl
theorem ok_not {a : Ex} (oa : OkE T N n Φ C ca a) : OkE T N n Φ C ca (.not a) := by
  intro x sc fn X W G h B
  cases x <;> try (cases h; done)
  rename_i op y p
  cases op <;> try (cases h; done)
  refine ⟨PE.imp (pe_not (oa y sc fn X W G h B).1) fun σ H Q ⟨ρ, F, st, o⟩ => ?_, PT.imp (pt_not (oa.tst G h B)) fun σ H Q ⟨ρ, F, st, o⟩ => ?_⟩
  · exact (oc_bool st o).imp fun v H1 ⟨k, e, F1, e1, st1, o1⟩ => ⟨k, e, oc_bl (fr := false) o1⟩
  · have o' : Oc rEq (fun c => wn ca W c σ) F H Q ((truB (ev Φ C ρ false a)).bind fun k => .ok (!k)) := by
      dsimp only [ev] at o
      cases q : truB (ev Φ C ρ false a) <;> rw [q] at o <;> exact o
    exact (oc_test (f := fun ρ => truB (ev Φ C ρ false a)) st o').imp fun k H1 ⟨F1, e1, st1, o1⟩ => o1 _ F1 H1 Ext.refl rfl
theorem ok_ite {c a b : Ex} (oc : OkE T N n Φ C ca c) (oa : OkE T N n Φ C ca a) (ob : OkE T N n Φ C ca b) : OkE T N n Φ C ca (.ite c a b) := by
  intro x sc fn X W G h B
  cases x <;> try (cases h; done)
  rename_i z u v p
  simp only [chkE, Bool.and_eq_true] at h
  obtain ⟨⟨h1, h2⟩, h3⟩ := h
  refine ⟨PE.imp (pe_ifExp (oc.tst G h1 B) (oa.sh G h2 B) (ob.sh G h3 B)) fun σ H Q ⟨ρ, F, st, o⟩ => ?_, ⟨fun pins s σ H Q I q => ?_⟩⟩
  · refine (oc_test (f := fun ρ => truB (ev Φ C ρ false c)) st o).imp fun k H1 ⟨F1, e1, st1, o1⟩ => ?_
    cases k with
    | true => exact ⟨ρ, F1, st1, o1⟩
    | false => exact ⟨ρ, F1, st1, o1⟩
  · obtain ⟨ρ, F, st, o⟩ := q
    show wpAny _ _ (do if ← isTrue z X.env (eval z X.env) then isTrue u X.env (eval u X.env) else isTrue v X.env (eval v X.env)) _ _ _
    have o' : Oc rEq (fun c => wn ca W c σ) F H Q ((truB (ev Φ C ρ false c)).bind fun k => if k then truB (ev Φ C ρ false a) else truB (ev Φ C ρ false b)) := by
      dsimp only [ev] at o
      cases q : truB (ev Φ C ρ false c) with
      | ok k => rw [q] at o; cases k <;> exact o
      | exc c => rw [q] at o; exact o
      | stk => rw [q] at o; exact o
    refine wpAny_bind (thn ((oc.tst G h1 B).run pins s σ H _ I (oc_test (f := fun ρ => truB (ev Φ C ρ false c)) st o')) fun k s1 ⟨H1, I1, F1, e1, st1, o1⟩ => ?_)
    cases k with
    | true => exact (oa.tst G h2 B).run pins s1 σ H1 Q I1 ⟨ρ, F1, st1, o1⟩
    | false => exact (ob.tst G h3 B).run pins s1 σ H1 Q I1 ⟨ρ, F1, st1, o1⟩
/-! ### argument lists, displays, calls -/
theorem oks_nil : OkEs T N n Φ C ca .nil := by
  intro xs sc fn X W G h B
  cases xs <;> try (cases h; done)
  exact ⟨PA.imp pa_nil fun σ H Q ⟨ρ, F, st, o⟩ => o [] F H Ext.refl .nil, PA.imp pa_nil fun σ H Q ⟨ρ, F, st, o⟩ => o [] F H Ext.refl .nil⟩
theorem oks_cons {e : Ex} {es : Exs} (oe : OkE T N n Φ C ca e) (os : OkEs T N n Φ C ca es) : OkEs T N n Φ C ca (.cons e es) := by
  intro xs sc fn X W G h B
  cases xs <;> try (cases h; done)
  rename_i x xs
  simp only [chkEs, Bool.and_eq_true] at h
  obtain ⟨⟨h0, h1⟩, h2⟩ := h
  refine ⟨PA.imp (pa_cons' h0 (oe.sh G h1 B) (os xs sc fn X W G h2 B).1) fun σ H Q ⟨ρ, F, st, o⟩ => ?_, PA.imp (pa_cons' h0 (oe.x G h1 B) (os xs sc fn X W G h2 B).2) fun σ H Q ⟨ρ, F, st, o⟩ => ?_⟩
  · refine (oc_bind (rel := rSh X.K) (f := fun ρ => ev Φ C ρ false e) st o).imp fun v H1 ⟨F1, d, e1, st1, r1, o1⟩ => ?_
    exact (oc_bind (rel := rShs X.K) (f := fun ρ => evs Φ C ρ false es) st1 o1).imp fun vs H2 ⟨F2, ds, e2, st2, r2, o2⟩ => o2 _ F2 H2 Ext.refl (.cons (r1.ext e2) r2)
  · refine (oc_bind (rel := rX X.K) (f := fun ρ => ev Φ C ρ true e) st o).imp fun v H1 ⟨F1, d, e1, st1, r1, o1⟩ => ?_
    exact (oc_bind (rel := rXs X.K) (f := fun ρ => evs Φ C ρ true es) st1 o1).imp fun vs H2 ⟨F2, ds, e2, st2, r2, o2⟩ => o2 _ F2 H2 Ext.refl (.cons (r1.ext e2) r2)
theorem ok_tup {es : Exs} (os : OkEs T N n Φ C ca es) : OkE T N n Φ C ca (.tup es) := by
  intro x sc fn X W G h B
  cases x <;> try (cases h; done)
  refine both_def (pe_tup (os _ sc fn X W G h B).1) rfl fun σ H Q ⟨ρ, F, st, o⟩ => ?_
  refine (oc_bind (rel := rShs X.K) (f := fun ρ => evs Φ C ρ false es) st o).imp fun vs H1 ⟨F1, ds, e1, st1, r1, o1⟩ => ?_
  split at o1
  · rename_i hl
    refine ⟨ll_line (by rw [r1.length]; exact hl), fun p hp => o1 _ F1 _ (Ext.upd hp) (.tup (.inl (.inl upd_same)) (fun _ => upd_same) (r1.ext (Ext.upd hp)))⟩
  · exact o1.elim
theorem ok_lst {es : Exs} (os : OkEs T N n Φ C ca es) : OkE T N n Φ C ca (.lst es) := by
  intro x sc fn X W G h B
  cases x <;> try (cases h; done)
  refine both_def (pe_lst (os _ sc fn X W G h B).1) rfl fun σ H Q ⟨ρ, F, st, o⟩ => ?_
  refine (oc_bind (rel := rShs X.K) (f := fun ρ => evs Φ C ρ false es) st o).imp fun vs H1 ⟨F1, ds, e1, st1, r1, o1⟩ => ?_
  split at o1
  · rename_i hl
    refine ⟨ll_line (by rw [r1.length]; exact hl), fun p hp => o1 _ F1 _ (Ext.upd hp) ⟨p, vs, rfl, st1.dom.ne hp, hp, upd_same, r1.ext (Ext.upd hp)⟩⟩
  · exact o1.elim
theorem plain_ix {y : Expr} (h : plainX y = true) : PlainIx y := fun o i => by cases y <;> first | rfl | cases h
theorem ixD_noexc {l : List D} {i : Int} {c : Nat} : ixD l i ≠ .exc c := by
  intro h
  unfold ixD at h
  split at h <;> cases h
theorem idx_noexc {x y : D} {c : Nat} : idxV x y ≠ .exc c := by
  intro h
  unfold idxV at h
  split at h <;> first | exact ixD_noexc h | cases h
theorem ok_idx {a i : Ex} (oa : OkE T N n Φ C ca a) (oi : OkE T N n Φ C ca i) : OkE T N n Φ C ca (.idx a i) := by
  intro x sc fn X W G h B
  cases x <;> try (cases h; done)
  rename_i u v p
  have h' : plainX v = true ∧ chkE T N sc a u = true ∧ chkE T N sc i v = true := by
    unfold chkE at h
    simp only [Bool.and_eq_true] at h
    exact ⟨h.1.1, h.1.2, h.2⟩
  obtain ⟨h0, h1, h2⟩ := h'
  refine both_def (pe_ix ix_data (oa.x G h1 B) (oi.sh G h2 B) (plain_ix h0)) rfl fun σ H Q ⟨ρ, F, st, o⟩ => ?_
  refine (oc_bind (rel := rX X.K) (f := fun ρ => ev Φ C ρ true a) st o).imp fun v1 H1 ⟨F1, d1, e1, st1, r1, o1⟩ => ?_
  refine (oc_bind (rel := rSh X.K) (f := fun ρ => ev Φ C ρ false i) st1 o1).imp fun v2 H2 ⟨F2, d2, e2, st2, r2, o2⟩ => ?_
  refine ⟨F2, d1, d2, st2.dom, r1.ext e2, .inl r2, ?_⟩
  cases q : idxV d1 d2 with
  | ok d => rw [q] at o2; exact o2
  | exc c => exact absurd q idx_noexc
  | stk => rw [q] at o2; exact o2.elim
end
end Rv
/-! Slices, calls, built-ins, comprehensions. -/
namespace Rv
open PySem PySem.Spec PyProof.Rows L2
section
variable {T : Tab} {N : List Str} {n : Nat} {Φ : Nat → List D → R D} {C : Nat → D} {ca : Nat → Addr} {sc : Scope} {fn : Str → Bool} {X : Cx} {W : WX} {B : Bs}
theorem slc_noexc {a : D} {l h : Option Int} {c : Nat} : slcV a l h ≠ .exc c := by
  intro q
  unfold slcV at q
  split at q <;> cases q
theorem ok_slc {a : Ex} {lo hi : Eo} (oa : OkE T N n Φ C ca a) (ol : OkO T N n Φ C ca lo) (oh : OkO T N n Φ C ca hi) : OkE T N n Φ C ca (.slc a lo hi) := by
  intro x sc fn X W G h B
  cases x <;> try (cases h; done)
  rename_i u v p
  cases v <;> try (cases h; done)
  rename_i l k st p2
  cases st <;> try (cases h; done)
  simp only [chkE, Bool.and_eq_true] at h
  obtain ⟨⟨h1, h2⟩, h3⟩ := h
  refine both_def (pe_slice sl_data (oa.x G h1 B) (ol.1 _ sc fn X W G h2 B) (oh.1 _ sc fn X W G h3 B)) rfl fun σ H Q ⟨ρ, F, st, o⟩ => ?_
  refine (oc_bind (rel := rX X.K) (f := fun ρ => ev Φ C ρ true a) st o).imp fun v1 H1 ⟨F1, d1, e1, st1, r1, o1⟩ => ?_
  refine (oc_bind (rel := rEq) (f := fun ρ => evo Φ C ρ lo) st1 o1).imp fun l1 H2 ⟨F2, d2, e2, st2, r2, o2⟩ => ?_
  refine (oc_bind (rel := rEq) (f := fun ρ => evo Φ C ρ hi) st2 o2).imp fun l2 H3 ⟨F3, d3, e3, st3, r3, o3⟩ => ?_
  have r2 : l1 = d2 := r2
  have r3 : l2 = d3 := r3
  subst r2 r3
  refine ⟨F3, d1, st3.dom, (r1.ext e2).ext e3, ?_⟩
  cases q : slcV d1 l1 l2 with
  | ok d => rw [q] at o3; exact o3
  | exc c => exact absurd q slc_noexc
  | stk => rw [q] at o3; exact o3.elim
theorem slcS_noexc {a : D} {l : Option Int} {c : Nat} : slcSV a l ≠ .exc c := by
  intro h
  unfold slcSV at h
  split at h <;> first | (cases h; done) | (split at h <;> cases h)
theorem ok_slcS {a : Ex} {s : Eo} (oa : OkE T N n Φ C ca a) (ol : OkO T N n Φ C ca s) : OkE T N n Φ C ca (.slcS a s) := by
  intro x sc fn X W G h B
  cases x <;> try (cases h; done)
  rename_i u v p
  cases v <;> try (cases h; done)
  rename_i l k st p2
  cases l <;> try (cases h; done)
  cases k <;> try (cases h; done)
  cases st <;> try (cases h; done)
  rename_i y
  simp only [chkE, Bool.and_eq_true] at h
  obtain ⟨h1, h2⟩ := h
  refine both_def (pe_slcS (oa.x G h1 B) (ol.1 _ sc fn X W G h2 B)) rfl fun σ H Q ⟨ρ, F, st, o⟩ => ?_
  refine (oc_bind (rel := rX X.K) (f := fun ρ => ev Φ C ρ true a) st o).imp fun v1 H1 ⟨F1, d1, e1, st1, r1, o1⟩ => ?_
  refine (oc_bind (rel := rEq) (f := fun ρ => evo Φ C ρ s) st1 o1).imp fun l1 H2 ⟨F2, d2, e2, st2, r2, o2⟩ => ?_
  have r2 : l1 = d2 := r2
  subst r2
  refine ⟨F2, d1, st2.dom, r1.ext e2, ?_⟩
  cases q : slcSV d1 l1 with
  | ok d => rw [q] at o2; exact o2
  | exc c => exact absurd q slcS_noexc
  | stk => rw [q] at o2; exact o2.elim
theorem oko_no : OkO T N n Φ C ca .no := by
  refine ⟨fun x sc fn X W G h B => ?_, fun xs sc fn X W G h B => ?_⟩
  · cases x <;> try (cases h; done)
    exact PO.imp po_none fun σ H Q ⟨ρ, F, st, o⟩ => o none F H Ext.refl rfl
  · cases xs <;> try (cases h; done)
    exact ⟨fun pins s σ H Q I ⟨ρ, F, st, o⟩ => pts_nil.run pins s σ H Q I (o true F H Ext.refl rfl)⟩
theorem oko_yes {e : Ex} (oe : OkE T N n Φ C ca e) : OkO T N n Φ C ca (.yes e) := by
  refine ⟨fun x sc fn X W G h B => ?_, fun xs sc fn X W G h B => ?_⟩
  · cases x <;> try (cases h; done)
    refine PO.imp (po_some (oe.sh G h B)) fun σ H Q ⟨ρ, F, st, o⟩ => ?_
    have o' : Oc rEq (fun c => wn ca W c σ) F H Q ((ev Φ C ρ false e).bind fun d => match d with | .int i => .ok (some i) | _ => .stk) := by
      dsimp only [evo] at o
      cases q : ev Φ C ρ false e with
      | ok d => rw [q] at o; cases d <;> exact o
      | exc c => rw [q] at o; exact o
      | stk => rw [q] at o; exact o
    refine (oc_bind (rel := rSh X.K) (f := fun ρ => ev Φ C ρ false e) st o').imp fun v1 H1 ⟨F1, d1, e1, st1, r1, o1⟩ => ?_
    cases d1 <;> try exact o1.elim
    cases r1
    exact ⟨_, rfl, o1 _ F1 H1 Ext.refl rfl⟩
  · rcases xs with _ | ⟨x, _ | ⟨y, xs⟩⟩ <;> try (cases h; done)
    exact ⟨fun pins s σ H Q I q => (pts_one (oe.tst G h B)).run pins s σ H Q I q⟩
/-! ### calls of defs -/
theorem call0S {Y : Cx} {CX : CXT} {k : Nat} {f : Addr} {fd : FuncData} {ps : List Str} {sp : Sp} {E : L2.St → XK} {x : Str} {p pos : Pos} (Fk : FnOk Y.prog Y.w Y.K Y.mg Y.base CX k f fd ps sp) (hr : Room k Y.A) (hg : Gl Y x) (hm : Y.mg x = some (.ref f))
    (hk : PySem.W.keepIn Y.K (.ref f) = true) (hb : Binds Y.K fd ps []) (hx : ∀ σ, PassesAt CX Y σ (E σ)) (hdb : (x == ("__debug__" : Str)) = false) : PE Y (.Call (.Name x p) [] [] pos) (tCallS sp E tNil) :=
  ⟨fun pins s σ H Q I h => wpAny_Call_Name_kw (ld_glob I hg hm (PySem.W.callWith_K0 I.kIn hk (run_fnS (us := []) Fk hr hb (hx σ) I .nil h)) hdb)⟩
theorem run_fnG {Y : Cx} {CX : CXT} {k : Nat} {f : Addr} {fd : FuncData} {ps : List Str} {sp : Sp} {E : L2.St → XK} {pins : List (Addr × Obj)} {σ : L2.St} {H : Hp} {s : Shared} {Q : VK} {as us : List Value} {ks : List (Str × Value)} {vs : List V}
    (F : FnOk Y.prog Y.w Y.K Y.mg Y.base CX k f fd ps sp) (hr : Room k Y.A) (hx : PassesAt CX Y σ (E σ)) (I : Inv Y pins σ H s) (b : BindsTo s fd ⟨as, ks⟩ (ps.zip us)) (r : Vals vs us) (h : sp vs H Q (E σ)) : wpAny (model Y.prog Y.w) Y.A (PySem.call (.ref f) as ks) (EP Y pins σ Q) Y.xe s := by
  refine wpAny_call (codeAny_mono (F.run Y.A Y.stack s H ⟨as, ks⟩ us vs Q (E σ) hr I.env0 b r h) fun r s' hq => ?_)
  cases r with
  | error e => exact hx pins H s e s' I hq
  | ok fl =>
    cases fl with
    | ret u => exact I.after hq
    | next => exact False.elim hq
    | brk => exact False.elim hq
    | cont => exact False.elim hq
section
variable {Y : Cx} {CX : CXT} {k : Nat} {f : Addr} {fd : FuncData} {ps : List Str} {sp : Sp} {E : L2.St → XK} {x : Str} {p pos kp : Pos} {e y : Expr} {es : List Expr} {t : TA} {te : TE} {d : Int} {u : Value} {kn : Str}
/-- the last parameter's default stands -/
theorem pe_callD (F : FnOk Y.prog Y.w Y.K Y.mg Y.base CX k f fd ps sp) (hr : Room k Y.A) (hg : Gl Y x) (hm : Y.mg x = some (.ref f)) (hk : PySem.W.keepIn Y.K (.ref f) = true) (ru : RelV (.int d) u) (hb : Binds Y.K fd ps [u]) (hx : ∀ σ, PassesAt CX Y σ (E σ))
    (ha : PA Y (e :: es) t) (hdb : (x == ("__debug__" : Str)) = false) (he : starEach (e :: es) Y.env = (false, eval e Y.env) :: starEach es Y.env) (hpl : (backTo pos (starEach es Y.env)).any (·.1) = false) :
    PE Y (.Call (.Name x p) (e :: es) [] pos) (fun σ H Q => t σ H fun vs H1 => vs.length + 1 = ps.length ∧ sp (vs ++ [.int d]) H1 Q (E σ)) := by
  refine ⟨fun pins s σ H Q I h => ?_⟩
  refine wpAny_Call_Name_kw (ld_glob I hg hm ?_ hdb)
  refine PySem.W.callWith_K (h₀ := Y.base) I.ok.mod.kin hk (thn (ha.run pos pins s σ H _ I h) fun us s1 ⟨vs, H1, I1, r, l, q⟩ => ⟨I1.kIn, ?_⟩) he hpl
  exact run_fnG F hr (hx σ) I1 (hb s1 us I1.kIn (by rw [List.length_append, ← r.length]; exact l)) (r.append (.cons ru .nil)) q
theorem pe_callD0 (F : FnOk Y.prog Y.w Y.K Y.mg Y.base CX k f fd ps sp) (hr : Room k Y.A) (hg : Gl Y x) (hm : Y.mg x = some (.ref f)) (hk : PySem.W.keepIn Y.K (.ref f) = true) (ru : RelV (.int d) u) (hb : Binds Y.K fd ps [u]) (hx : ∀ σ, PassesAt CX Y σ (E σ)) (hl : 1 = ps.length)
    (hdb : (x == ("__debug__" : Str)) = false) : PE Y (.Call (.Name x p) [] [] pos) (fun σ H Q => sp [.int d] H Q (E σ)) :=
  ⟨fun pins s σ H Q I h => wpAny_Call_Name_kw (ld_glob I hg hm (PySem.W.callWith_K0 I.kIn hk (run_fnG (us := [u]) F hr (hx σ) I (hb s [] I.kIn hl) (.cons ru .nil) h)) hdb)⟩
/-- the last parameter by its name -/
theorem pe_callN' (F : FnOk Y.prog Y.w Y.K Y.mg Y.base CX k f fd ps sp) (hr : Room k Y.A) (hg : Gl Y x) (hm : Y.mg x = some (.ref f)) (hk : PySem.W.keepIn Y.K (.ref f) = true)
    (hb : ∀ (s : Shared) (us : List Value) (w : Value), Y.K.In s.heap → us.length + 1 = ps.length → BindsTo s fd ⟨us, [(kn, w)]⟩ (ps.zip (us ++ [w]))) (hx : ∀ σ, PassesAt CX Y σ (E σ))
    (ha : PA Y (e :: es) t) (hy : PE Y y te) (hdb : (x == ("__debug__" : Str)) = false) (he : starEach (e :: es) Y.env = (false, eval e Y.env) :: starEach es Y.env) (hpl : (backTo pos (starEach (e :: es) Y.env)).any (·.1) = false) :
    PE Y (.Call (.Name x p) (e :: es) [⟨some kn, y, kp⟩] pos) (fun σ H Q => t σ H fun vs H1 => te σ H1 fun v H2 => vs.length + 1 = ps.length ∧ sp (vs ++ [v]) H2 Q (E σ)) := by
  refine ⟨fun pins s σ H Q I h => ?_⟩
  refine wpAny_Call_Name_kw (ld_glob I hg hm ?_ hdb)
  have pk : PK Y [⟨some kn, y, kp⟩] (tCons te tNil) := pk_cons hy pk_nil
  refine PySem.W.callWith_KW (h₀ := Y.base) I.ok.mod.kin hk rfl (thn (ha.run pos pins s σ H _ I h) fun us s1 ⟨vs, H1, I1, r, q⟩ => ?_) (by rw [hpl]; rfl) he
  refine thn (pk.run pos pins s1 σ H1 (fun zs H2 => match zs with | [v] => vs.length + 1 = ps.length ∧ sp (vs ++ [v]) H2 Q (E σ) | _ => False) I1 q) fun ws s2 ⟨zs, H2, I2, rz, q3⟩ => ⟨I2.kIn, ?_⟩
  obtain ⟨v, ez, l, q2⟩ : ∃ v, zs = [v] ∧ vs.length + 1 = ps.length ∧ sp (vs ++ [v]) H2 Q (E σ) := by
    rcases zs with _ | ⟨v, _ | ⟨v2, zs⟩⟩
    · exact q3.elim
    · exact ⟨v, rfl, q3⟩
    · exact q3.elim
  subst ez
  cases rz with
  | cons rw0 rn =>
    cases rn
    exact run_fnG F hr (hx σ) I2 (hb s2 us _ I2.kIn (by rw [← r.length]; exact l)) (r.append (.cons rw0 .nil)) q2
theorem pe_callN0 (F : FnOk Y.prog Y.w Y.K Y.mg Y.base CX k f fd ps sp) (hr : Room k Y.A) (hg : Gl Y x) (hm : Y.mg x = some (.ref f)) (hk : PySem.W.keepIn Y.K (.ref f) = true)
    (hb : ∀ (s : Shared) (us : List Value) (w : Value), Y.K.In s.heap → us.length + 1 = ps.length → BindsTo s fd ⟨us, [(kn, w)]⟩ (ps.zip (us ++ [w]))) (hx : ∀ σ, PassesAt CX Y σ (E σ)) (hl : 1 = ps.length)
    (hy : PE Y y te) (hdb : (x == ("__debug__" : Str)) = false) :
    PE Y (.Call (.Name x p) [] [⟨some kn, y, kp⟩] pos) (fun σ H Q => te σ H fun v H2 => sp [v] H2 Q (E σ)) := by
  refine ⟨fun pins s σ H Q I h => ?_⟩
  refine wpAny_Call_Name_kw (ld_glob I hg hm ?_ hdb)
  have pk : PK Y [⟨some kn, y, kp⟩] (tCons te tNil) := pk_cons hy pk_nil
  refine PySem.W.callWith_KW0 (h₀ := Y.base) I.ok.mod.kin hk rfl ?_
  refine thn (pk.run pos pins s σ H (fun zs H2 => match zs with | [v] => sp [v] H2 Q (E σ) | _ => False) I h) fun ws s2 ⟨zs, H2, I2, rz, q3⟩ => ⟨I2.kIn, ?_⟩
  obtain ⟨v, ez, q2⟩ : ∃ v, zs = [v] ∧ sp [v] H2 Q (E σ) := by
    rcases zs with _ | ⟨v, _ | ⟨v2, zs⟩⟩
    · exact q3.elim
    · exact ⟨v, rfl, q3⟩
    · exact q3.elim
  subst ez
  cases rz with
  | cons rw0 rn =>
    cases rn
    exact run_fnG (us := [_]) F hr (hx σ) I2 (hb s2 [] _ I2.kIn hl) (.cons rw0 .nil) q2
end
theorem ok_callD {f : Nat} {es : Exs} {d : Int} (os : OkEs T N n Φ C ca es) : OkE T N n Φ C ca (.callD f es d) := by
  intro x sc fn X W G h B
  cases x <;> try (cases h; done)
  rename_i g xs kw p
  cases g <;> try (cases h; done)
  cases kw <;> try (cases h; done)
  rename_i g gp
  simp only [chkE, Bool.and_eq_true] at h
  obtain ⟨⟨⟨h1, h2⟩, h3⟩, h4⟩ := h
  split at h1
  · rename_i fi e
    obtain ⟨e1, e2, e3⟩ := of_decide_eq_true h1
    subst e1
    obtain ⟨⟨fa, fd, ps, hm, hk, bd, hl, Fk⟩, har⟩ := G.fns g fi e
    obtain ⟨u, ru, hb⟩ := bd.df d e2
    have sp_of : ∀ {σ : L2.St} {F1 : Addr → Prop} {H1 : Hp} {vs : List V} {ds : List D} {Q : VK}, Dom F1 H1 → Reps X.K F1 H1 vs ds → Oc (rV X.K false) (fun c => wn ca W c σ) F1 H1 Q (Φ fi.id (ds ++ [.int d])) →
        vs.length + 1 = ps.length ∧ spF X.K ca (Φ fi.id) fi.ar (vs ++ [.int d]) H1 Q (WE W σ) := fun {σ F1 H1 vs ds Q} dm r o => by
      have hs : Φ fi.id (ds ++ [.int d]) ≠ .stk := fun z => by rw [z] at o; exact o
      have hlen := har _ hs
      exact ⟨by rw [hl, r.length, ← hlen, List.length_append]; rfl, F1, ds ++ [D.int d], dm, r.append (Reps.cons (Rep.int d) Reps.nil), hlen, o⟩
    cases xs with
    | nil =>
      refine both_def (pe_callD0 Fk G.room (G.gl h2) hm hk ru hb G.pass (by rw [hl]; exact e3) (okN_dbg h3)) rfl fun σ H Q ⟨ρ, F, st, o⟩ => ?_
      cases es <;> try (cases h4; done)
      exact (sp_of (vs := []) (ds := []) st.dom .nil o).2
    | cons x xs =>
      have hp := chkEs_plain h4
      simp only [List.all_cons, Bool.and_eq_true] at hp
      refine both_def (pe_callD Fk G.room (G.gl h2) hm hk ru hb G.pass (os _ sc fn X W G h4 B).1 (okN_dbg h3) (star_cons hp.1 xs X.env) (star_any p X.env hp.2)) rfl fun σ H Q ⟨ρ, F, st, o⟩ => ?_
      exact (oc_bind (rel := rShs X.K) (f := fun ρ => evs Φ C ρ false es) st o).imp fun vs H1 ⟨F1, ds, e1, st1, r1, o1⟩ => sp_of st1.dom r1 o1
  · cases h1
theorem ok_callK {f : Nat} {es : Exs} {e : Ex} (os : OkEs T N n Φ C ca es) (oe : OkE T N n Φ C ca e) : OkE T N n Φ C ca (.callK f es e) := by
  intro x sc fn X W G h B
  cases x <;> try (cases h; done)
  rename_i g xs kw p
  cases g <;> try (cases h; done)
  rcases kw with _ | ⟨⟨kn, y, kp⟩, _ | ⟨k2, kw⟩⟩ <;> try (cases h; done)
  rename_i g gp
  simp only [chkE, Bool.and_eq_true] at h
  obtain ⟨⟨⟨⟨h1, h2⟩, h3⟩, h4⟩, h5⟩ := h
  split at h1
  · rename_i fi ef
    obtain ⟨e1, e2, e3, e4⟩ := of_decide_eq_true h1
    subst e1
    cases kn with
    | none => cases e3
    | some kn =>
    obtain ⟨⟨fa, fd, ps, hm, hk, bd, hl, Fk⟩, har⟩ := G.fns g fi ef
    have hb := bd.kw kn e2
    have sp_of : ∀ {σ : L2.St} {F1 : Addr → Prop} {H1 : Hp} {vs : List V} {ds : List D} {v : V} {d : D} {Q : VK}, Dom F1 H1 → Reps X.K F1 H1 vs ds → Rep X.K F1 H1 v d → Oc (rV X.K false) (fun c => wn ca W c σ) F1 H1 Q (Φ fi.id (ds ++ [d])) →
        vs.length + 1 = ps.length ∧ spF X.K ca (Φ fi.id) fi.ar (vs ++ [v]) H1 Q (WE W σ) := fun {σ F1 H1 vs ds v d Q} dm r rv o => by
      have hs : Φ fi.id (ds ++ [d]) ≠ .stk := fun z => by rw [z] at o; exact o
      have hlen := har _ hs
      refine ⟨by rw [hl, r.length, ← hlen, List.length_append]; rfl, F1, ds ++ [d], dm, r.append (.cons rv .nil), hlen, o⟩
    cases xs with
    | nil =>
      refine both_def (pe_callN0 Fk G.room (G.gl h2) hm hk hb G.pass (by rw [hl]; exact e4) (oe.sh G h5 B) (okN_dbg h3)) rfl fun σ H Q ⟨ρ, F, st, o⟩ => ?_
      cases es <;> try (cases h4; done)
      exact (oc_bind (rel := rSh X.K) (f := fun ρ => ev Φ C ρ false e) st o).imp fun v H1 ⟨F1, d, e1, st1, r1, o1⟩ => (sp_of (vs := []) (ds := []) st1.dom .nil r1 o1).2
    | cons x xs =>
      have hp := chkEs_plain h4
      have hp' := hp
      simp only [List.all_cons, Bool.and_eq_true] at hp
      refine both_def (pe_callN' Fk G.room (G.gl h2) hm hk hb G.pass (os _ sc fn X W G h4 B).1 (oe.sh G h5 B) (okN_dbg h3) (star_cons hp.1 xs X.env) (star_any p X.env hp')) rfl fun σ H Q ⟨ρ, F, st, o⟩ => ?_
      refine (oc_bind (rel := rShs X.K) (f := fun ρ => evs Φ C ρ false es) st o).imp fun vs H1 ⟨F1, ds, e1, st1, r1, o1⟩ => ?_
      exact (oc_bind (rel := rSh X.K) (f := fun ρ => ev Φ C ρ false e) st1 o1).imp fun v H2 ⟨F2, d, e2, st2, r2, o2⟩ => sp_of st2.dom (r1.ext e2) r2 o2
  · cases h1
theorem ok_call {f : Nat} {es : Exs} (os : OkEs T N n Φ C ca es) : OkE T N n Φ C ca (.call f es) := by
  intro x sc fn X W G h B
  cases x <;> try (cases h; done)
  rename_i g xs kw p
  cases g <;> try (cases h; done)
  cases kw <;> try (cases h; done)
  rename_i g gp
  simp only [chkE, Bool.and_eq_true] at h
  obtain ⟨⟨⟨h1, h2⟩, h3⟩, h4⟩ := h
  split at h1
  · rename_i fi e
    obtain ⟨e1, e2⟩ := of_decide_eq_true h1
    subst e1
    obtain ⟨⟨fa, fd, ps, hm, hk, bd, hl, Fk⟩, har⟩ := G.fns g fi e
    have hb := bd.all e2
    have key : ∀ σ H Q, tG X.K B (wn ca W) (rV X.K false) (fun ρ => ev Φ C ρ false (.call fi.id es)) σ H Q → tCallS (spF X.K ca (Φ fi.id) fi.ar) (WE W) (tG X.K B (wn ca W) (rShs X.K) fun ρ => evs Φ C ρ false es) σ H Q := fun σ H Q ⟨ρ, F, st, o⟩ => by
      refine (oc_bind (rel := rShs X.K) (f := fun ρ => evs Φ C ρ false es) st o).imp fun vs H1 ⟨F1, ds, e1, st1, r1, o1⟩ => ?_
      have hs : Φ fi.id ds ≠ .stk := fun z => by rw [z] at o1; exact o1
      exact ⟨F1, ds, st1.dom, r1, har ds hs, o1⟩
    cases xs with
    | nil =>
      refine both_def (call0S Fk G.room (G.gl h2) hm hk hb G.pass (okN_dbg h3)) rfl fun σ H Q q => ?_
      have q2 := key σ H Q q
      obtain ⟨ρ, F, st, o⟩ := q2
      cases es <;> try (cases h4; done)
      exact o [] F H Ext.refl .nil
    | cons x xs =>
      have hp := chkEs_plain h4
      simp only [List.all_cons, Bool.and_eq_true] at hp
      exact both_def (pe_callS Fk G.room (G.gl h2) hm hk hb G.pass (os _ sc fn X W G h4 B).1 (okN_dbg h3) (star_cons hp.1 xs X.env) (star_any p X.env hp.2)) rfl key
  · cases h1
/-! ### built-ins -/
theorem boot_bf (b : Bf) : bootBuiltins (bfName b) = some (bfVal b) := by cases b <;> decide +kernel
theorem bf_in (b : Bf) : bfName b ∈ bltNames := by cases b <;> decide +kernel
theorem bf_ne (b : Bf) : bfName b ≠ "__name__" ∧ (bfName b == ("__debug__" : Str)) = false := by cases b <;> decide +kernel
theorem minL_noexc {l : List D} {c : Nat} : minL l ≠ .exc c := by
  intro h
  unfold minL at h
  split at h <;> cases h
theorem maxL_noexc {l : List D} {c : Nat} : maxL l ≠ .exc c := by
  intro h
  unfold maxL at h
  split at h <;> cases h
theorem srtT_noexc {l : List D} {c : Nat} : srtT l ≠ .exc c := by
  intro h
  unfold srtT at h
  split at h <;> first | (cases h; done) | (split at h <;> cases h)
theorem bfn_noexc {b : Bf} {l : List D} {c : Nat} : bfn b l ≠ .exc c := by
  intro h
  unfold bfn at h
  split at h <;> first | (cases h; done) | exact minL_noexc h | exact maxL_noexc h | exact srtT_noexc h | (split at h <;> cases h)
/-- a call of a built-in, a function or a type, by its name -/
theorem pe_blt {Y : Cx} {b : Bf} {x : Expr} {xs : List Expr} {p pos : Pos} {t : TA} (hc : Y.calm = true) (hg : Gl Y (bfName b)) (hm : Y.mg (bfName b) = none) (ha : PA Y (x :: xs) t)
    (he : starEach (x :: xs) Y.env = (false, eval x Y.env) :: starEach xs Y.env) (hpl : (backTo pos (starEach xs Y.env)).any (·.1) = false) : PE Y (.Call (.Name (bfName b) p) (x :: xs) [] pos) (tCB (rBfn Y.K b) t) := by
  have h := bfn_data (X := Y) hc b
  have hv := boot_bf b
  have hn := bf_ne b
  cases b <;> first
    | exact pe_callB h hg hm hv ha hn.1 hn.2 he hpl
    | exact pe_callTy h hg hm hv ha hn.1 hn.2 he hpl
theorem ok_bfn {b : Bf} {es : Exs} (os : OkEs T N n Φ C ca es) : OkE T N n Φ C ca (.bfn b es) := by
  intro x sc fn X W G h B
  cases x <;> try (cases h; done)
  rename_i g xs kw p
  cases g <;> try (cases h; done)
  cases xs <;> try (cases h; done)
  cases kw <;> try (cases h; done)
  rename_i g gp x xs
  simp only [chkE, Bool.and_eq_true, decide_eq_true_eq] at h
  obtain ⟨⟨h1, h2⟩, h3⟩ := h
  subst h1
  have hp := chkEs_plain h3
  simp only [List.all_cons, Bool.and_eq_true] at hp
  refine both_def (pe_blt G.calm (G.gl h2) (G.blt _ (bf_in b)) (os _ sc fn X W G h3 B).2 (star_cons hp.1 xs X.env) (star_any p X.env hp.2)) rfl fun σ H Q ⟨ρ, F, st, o⟩ => ?_
  refine (oc_bind (rel := rXs X.K) (f := fun ρ => evs Φ C ρ true es) st o).imp fun vs H1 ⟨F1, ds, e1, st1, r1, o1⟩ => ?_
  refine ⟨F1, ds, st1.dom, r1, ?_⟩
  cases q : bfn b ds with
  | ok d => rw [q] at o1; exact o1
  | exc c => exact absurd q bfn_noexc
  | stk => rw [q] at o1; exact o1.elim
/-! ### isinstance -/
theorem boot_ty (t : Ty) : bootBuiltins (Str.ofString (tyV t)) = some (.type (tyV t)) := by cases t <;> decide +kernel
theorem ty_in (t : Ty) : Str.ofString (tyV t) ∈ bltNames := by cases t <;> decide +kernel
theorem ty_ne (t : Ty) : Str.ofString (tyV t) ≠ "__name__" ∧ (Str.ofString (tyV t) == ("__debug__" : Str)) = false := by cases t <;> decide +kernel
theorem pe_ty (G : GX T N n Φ C ca sc fn X W) {t : Ty} {x : Expr} (h : tyB sc t x = true) : PE X x (tC (.ty (tyV t))) ∧ plainX x = true := by
  cases x <;> try (cases h; done)
  simp only [tyB, Bool.and_eq_true, decide_eq_true_eq] at h
  obtain ⟨h1, h2⟩ := h
  subst h1
  exact ⟨pe_bltn (G.gl h2) (G.blt _ (ty_in t)) (boot_ty t) rfl (ty_ne t).1 (ty_ne t).2, rfl⟩
def tTys : List Ty → TA
  | [] => tNil
  | t :: ts => tCons (tC (.ty (tyV t))) (tTys ts)
theorem pa_tys (G : GX T N n Φ C ca sc fn X W) : ∀ {ts : List Ty} {xs : List Expr}, tysB sc ts xs = true → PA X xs (tTys ts)
  | [], [], _ => pa_nil
  | [], _ :: _, h => by cases h
  | _ :: _, [], h => by cases h
  | t :: ts, x :: xs, h => by
    simp only [tysB, Bool.and_eq_true] at h
    obtain ⟨h1, h2⟩ := pe_ty G h.1
    exact pa_cons' h2 h1 (pa_tys G h.2)
theorem tTys_run {σ : L2.St} {H : Hp} {Q : List V → Hp → Prop} : ∀ {ts : List Ty}, Q (ts.map fun t => V.ty (tyV t)) H → tTys ts σ H Q
  | [], h => h
  | t :: ts, h => tTys_run (ts := ts) (Q := fun xs H2 => Q (V.ty (tyV t) :: xs) H2) h
theorem cls_tys : ∀ ts : List Ty, Paired ClsV (ts.map fun t => V.ty (tyV t)) (ts.map fun t => Value.type (tyV t))
  | [] => .nil
  | t :: ts => .cons (.ty _) (cls_tys ts)
theorem anyTy_ty {ts : List Ty} {d : D} {b : Bool} (hn : ts ≠ []) (h : anyTy ts d = .ok b) : ∃ a, tyD d = some a := by
  cases ts with
  | nil => exact absurd rfl hn
  | cons t ts =>
    simp only [anyTy] at h
    cases e : tyIs t d with
    | ok k => obtain ⟨a, h1, _⟩ := tyIs_ok e; exact ⟨a, h1⟩
    | exc c => rw [e] at h; cases h
    | stk => rw [e] at h; cases h
theorem tyIs_noexc {t : Ty} {d : D} {c : Nat} : tyIs t d ≠ .exc c := by
  intro h
  cases t <;> cases d <;> cases h
theorem anyTy_noexc {d : D} {c : Nat} : ∀ {ts : List Ty}, anyTy ts d ≠ .exc c
  | [], h => by cases h
  | t :: ts, h => by
    simp only [anyTy] at h
    cases e : tyIs t d with
    | ok k =>
      rw [e] at h
      cases k
      · exact anyTy_noexc (ts := ts) (by simpa using h)
      · cases h
    | exc c => exact tyIs_noexc e
    | stk => rw [e] at h; cases h
theorem ok_isi {a : Ex} {ts : List Ty} (oa : OkE T N n Φ C ca a) : OkE T N n Φ C ca (.isi a ts) := by
  intro x sc fn X W G h B
  cases x <;> try (cases h; done)
  rename_i g xs kw p
  cases g <;> try (cases h; done)
  rcases xs with _ | ⟨x, _ | ⟨t, _ | ⟨t2, xs⟩⟩⟩ <;> try (cases h; done)
  cases kw <;> try (cases h; done)
  rename_i g gp
  simp only [chkE, Bool.and_eq_true, decide_eq_true_eq] at h
  obtain ⟨⟨⟨⟨h1, h2⟩, h3⟩, h4⟩, h6, h7⟩ := h
  subst h1
  have hx := chkE_plain h3
  have hts : ts ≠ [] := fun z => by subst z; exact absurd h6 (by decide)
  have hbm : X.mg (Str.ofString "isinstance") = none := G.blt _ (by decide +kernel)
  have hbv : bootBuiltins (Str.ofString "isinstance") = some (.builtin "isinstance") := PyProof.Rows.boot_isinstance
  have hne : Str.ofString "isinstance" ≠ "__name__" ∧ (Str.ofString "isinstance" == ("__debug__" : Str)) = false := by decide +kernel
  have fin : ∀ {F1 : Addr → Prop} {H1 : Hp} {Q : VK} {σ : L2.St} {r : R Bool}, (∀ c, r ≠ .exc c) → Oc (rV X.K false) (fun c => wn ca W c σ) F1 H1 Q (ofB r) → ∃ b, r = .ok b ∧ ∀ F' H', Ext F1 F' H1 H' → Q (.bl b) H' := fun {F1 H1 Q σ r} hr o => by
    cases r with
    | ok b => exact ⟨b, rfl, fun F' H' e => o _ F' H' e (.bl b)⟩
    | exc c => exact absurd rfl (hr c)
    | stk => exact o.elim
  cases t with
  | Tuple ys k p2 =>
    have h5 : tysB sc ts ys = true := by cases ts <;> first | exact h4 | (rename_i l; cases l <;> exact h4)
    refine both_def (pe_callB call_isiT (G.gl h2) hbm hbv (pa_cons' hx (oa.sh G h3 B) (pa_cons' rfl (pe_tup (pa_tys G h5)) pa_nil)) hne.1 hne.2 (star_cons hx _ X.env) rfl) rfl fun σ H Q ⟨ρ, F, st, o⟩ => ?_
    refine (oc_bind (rel := rSh X.K) (f := fun ρ => ev Φ C ρ false a) st o).imp fun v H1 ⟨F1, d, e1, st1, r1, o1⟩ => ?_
    obtain ⟨b, e2, q⟩ := fin (fun c => anyTy_noexc) o1
    obtain ⟨ta, e3⟩ := anyTy_ty hts e2
    exact tTys_run (ts := ts) ⟨by rw [List.length_map]; exact ll_line (Nat.le_trans h7 (by decide)), fun tp htp => ⟨v, tp, _, _, _, b, rfl, upd_same, cls_tys ts, tyX_of (r1.ext (Ext.upd htp)) e3, isi_any e3 e2, q F1 _ (Ext.upd htp)⟩⟩
  | Name y p2 =>
    rcases ts with _ | ⟨t, _ | ⟨t2, l⟩⟩ <;> try (cases h4; done)
    obtain ⟨g1, g2⟩ := pe_ty G (t := t) (x := .Name y p2) h4
    refine both_def (pe_callB call_isi (G.gl h2) hbm hbv (pa_cons' hx (oa.sh G h3 B) (pa_cons' rfl g1 pa_nil)) hne.1 hne.2 (star_cons hx _ X.env) rfl) rfl fun σ H Q ⟨ρ, F, st, o⟩ => ?_
    refine (oc_bind (rel := rSh X.K) (f := fun ρ => ev Φ C ρ false a) st o).imp fun v H1 ⟨F1, d, e1, st1, r1, o1⟩ => ?_
    obtain ⟨b, e2, q⟩ := fin (fun c => anyTy_noexc) o1
    cases e3 : tyIs t d with
    | ok k =>
      obtain ⟨ta, g3, g4⟩ := isi_one (K := X.K) r1 e3
      have e4 : k = b := by
        simp only [anyTy, e3, R.bind_ok] at e2
        cases k <;> simpa using e2
      subst e4
      exact ⟨v, _, _, _, k, rfl, .ty _, g3, g4, q F1 H1 Ext.refl⟩
    | exc c => exact absurd e3 tyIs_noexc
    | stk => simp only [anyTy, e3] at e2; cases e2
  | _ => cases ts <;> first | (cases h4; done) | (rename_i l; cases l <;> cases h4)
end
end Rv
/-! Targets, what is walked, comprehensions. -/
namespace Rv
open PySem PySem.Spec PyProof.Rows L2
/-! ### enumerate(tuple) -/
open AutoSeq1 (wpAny_loadPart') in
theorem meets_enumT (l : Addr) (items : Array Value) (n : Nat) (dct : Option Addr) (sl : Array (Option Value)) :
    Meets (Builtin.«enumerate.__new__» ⟨[.type "enumerate", .ref l], []⟩) (fun _ R s => s.heap.get? l = some { cls := .type "tuple", dict := dct, data := .seq items n, slots := sl } ∧
      R (.ok (.ret (.ref (s.heap.push { cls := .type "tuple_iterator", data := .fields #[.ref l, .int 0 0] }).objs.size)))
        { s with heap := (s.heap.push { cls := .type "tuple_iterator", data := .fields #[.ref l, .int 0 0] }).push { cls := .type "enumerate", data := .fields #[.none, .bool false, .ref s.heap.objs.size, rawInt 0, .none, .none] } }) :=
  .of_wp fun prog w A R s h => by
    obtain ⟨hp, g, d, tk, os⟩ := s
    obtain ⟨hl, h⟩ := h
    have hsub := sub_enumerate
    have hL : Heap.IsTuple (Shared.heap ⟨hp, g, d, tk, os⟩) l items := ⟨_, hl, rfl, n, rfl⟩
    wp_walk using wpAny_loadPart' hl
    refine wpAny_stack_any fun st => wpAny_pure ?_
    split
    · rename_i c _ _ _ _ _
      cases (c == Value.type "enumerate")
      · wp_walk using wpAny_loadPart' hl, wpAny_pyIter_tuple hL
        exact ⟨_, rfl, h⟩
      · wp_walk using wpAny_loadPart' hl, wpAny_pyIter_tuple hL
        exact ⟨_, rfl, h⟩
    · wp_walk using wpAny_loadPart' hl, wpAny_pyIter_tuple hL
      exact ⟨_, rfl, h⟩
theorem call_enumT {prog : Program} {w : World} {A : Around} {E : Value → Shared → Prop} {s : Shared} {l : Addr} {items : Array Value} {Q : Value → Shared → Prop} (hL : s.heap.IsTuple l items)
    (h : ∀ h', IsEnum h' (s.heap.objs.size + 1) s.heap.objs.size 0 .none → h'.IsTupleIter s.heap.objs.size l 0 → h'.objs.size = s.heap.objs.size + 2 →
      (∀ b o, s.heap.get? b = some o → h'.get? b = some o) → Q (.ref (s.heap.objs.size + 1)) { s with heap := h' }) :
    wpAny (model prog w) A (PySem.call (.type "enumerate") [.ref l]) Q E s := by
  obtain ⟨⟨c, dct, dt, sl⟩, hl, hc, n, hd⟩ := hL
  replace hc : c = .type "tuple" := hc
  replace hd : dt = .seq items n := hd
  subst hc hd
  refine callType_new F.called_enumerate (by decide) (F.typeCall_enumerate_1 _) (F.newCall_enumerate_1 _) (fun obj => F.args_object_init_2 obj _) F.entry_enumerate_new (meets_enumT l items n dct sl) ⟨hl, ?_⟩
  have z1 : (s.heap.push { cls := .type "tuple_iterator", data := .fields #[.ref l, .int 0 0] }).objs.size = s.heap.objs.size + 1 := Heap.size_push ..
  show _ ∧ _
  rw [z1]
  have he : IsEnum ((s.heap.push { cls := .type "tuple_iterator", data := .fields #[.ref l, .int 0 0] }).push
      { cls := .type "enumerate", data := .fields #[.none, .bool false, .ref s.heap.objs.size, rawInt 0, .none, .none] }) (s.heap.objs.size + 1) s.heap.objs.size 0 .none := by
    have q := Heap.get?_push_size (s.heap.push { cls := .type "tuple_iterator", data := .fields #[.ref l, .int 0 0] })
      (o := { cls := .type "enumerate", data := .fields #[.none, .bool false, .ref s.heap.objs.size, rawInt 0, .none, .none] }) rfl
    rw [z1] at q
    exact q
  refine ⟨⟨_, he, rfl⟩, h _ he ⟨_, Heap.get?_push_of_some _ (Heap.get?_push_size _ rfl), rfl, rfl⟩ (by rw [Heap.size_push, z1]) fun b o x => Heap.get?_push_of_some _ (Heap.get?_push_of_some _ x)⟩
theorem enumT_end {prog : Program} {w : World} {A : Around} {E : Value → Shared → Prop} {s : Shared} {e it t : Addr} {items : Array Value} {i : Nat} {j : Int} {old : Value} {Q : Option Value → Shared → Prop} (hh : A.in1.handled = none) (he : IsEnum s.heap e it j old) (hit : s.heap.IsTupleIter it t i) (ht : s.heap.IsTuple t items) (hx : items[i]? = none)
    (hQ : ∀ h', Heap.ExtBut it s.heap h' → Q none { s with heap := h' }) : wpAny (model prog w) A (pyNext (.ref e)) Q E s := by
  have hT : s.TypeIs (.ref e) "enumerate" := ⟨_, he, rfl⟩
  unfold pyNext
  refine wpAny_bind (wpAny_attempt (wpAny_callSpecial?_slot (name := Str.ofString "__next__") hT F.slot_enumerate_next (wpAny_call_entry F.slot_enumerate_next hT F.entry_enumerate_next ?_ (F.args_enumerate_next_1 _))))
  show wpAny _ _ (field (.ref e) 2 >>= _) _ _ _
  refine wpAny_bind (wpAny_field he rfl (x := .ref it) rfl (wpAny_bind (wpAny_nextOf_tuple_end (A := A.in1) hh hit ht hx fun h' x he' hx' => ?_)))
  obtain ⟨o, ho, hc⟩ := hx'
  exact wpAny_bind (wpAny_isInstance (T := "StopIteration") (b := true) ⟨o, ho, hc⟩ isSubtype_stop (wpAny_pure (hQ _ he')))
def ItE (K : PySem.W.Frag) (a : Addr) : It :=
  ⟨fun i H => ∃ (xs : List V) (x : V), SqT K H a xs ∧ xs[i]? = some x, fun i H v H' => ∃ T x, v = .ref T ∧ H T = none ∧ H' = upd H T (.tup [.int (i : Nat), x]) ∧ ∀ xs, SqT K H a xs → xs[i]? = some x, fun i H => ∃ xs : List V, SqT K H a xs ∧ xs.length ≤ i⟩
theorem tup_inj {X : Cx} {pins : List (Addr × Obj)} {σ : L2.St} {H : Hp} {s : Shared} {a : Addr} {xs ys : List V} (I : Inv X pins σ H s) (h : SqT X.K H a xs) (k : SqT X.K H a ys) : xs = ys := by
  obtain ⟨its, r, ⟨o, ho, _, n, hd⟩, _⟩ := I.tuple h
  obtain ⟨its2, r2, ⟨o2, ho2, _, n2, hd2⟩, _⟩ := I.tuple k
  rw [ho] at ho2
  cases ho2
  rw [hd] at hd2
  cases hd2
  exact r.inj r2
theorem turn_enumT {P : Program} {w : World} {K : PySem.W.Frag} {elts : List Expr} {kk : Nat} {tpos : Pos} (a e it : Addr) :
    Turn P w K (.Tuple elts kk tpos) (ItE K a) [e, it] e (fun i h => (∃ old, IsEnum h e it ((i : Nat) : Int) old) ∧ h.IsTupleIter it a i ∧ e ≠ it) where
  mem := by simp
  obj := fun i h st b hb => by
    obtain ⟨⟨old, he⟩, ⟨o, ho, hc, hd⟩, _⟩ := st
    have e' : b = e ∨ b = it := by simpa using hb
    rcases e' with z | z
    · rw [z]; exact ⟨_, he, fun v q => nomatch q⟩
    · rw [z]; exact ⟨o, ho, fun v q => by rw [hd] at q; cases q⟩
  keep := fun i h h' st k => by
    obtain ⟨⟨old, he⟩, ⟨o, ho, hc, hd⟩, hne⟩ := st
    exact ⟨⟨old, k e (by simp) _ he⟩, ⟨o, k it (by simp) o ho, hc, hd⟩, hne⟩
  item := by
    intro X hP hw hK hc i pins s σ H E I hf st hg
    subst hP hw hK
    obtain ⟨⟨old, he⟩, hit, hne⟩ := st
    obtain ⟨xs, x, hq, hx⟩ := hg
    obtain ⟨its, rv, p, hz⟩ := I.tuple hq
    obtain ⟨u, hu, ru⟩ := rv.get hx
    have hl := rv.length
    obtain ⟨ot, hot, hct, nt, hdt⟩ := id p
    have hi : i < its.toArray.size := by
      have := (List.getElem?_eq_some_iff.mp hx).1
      rw [List.size_toArray]; omega
    have ne1 : a ≠ it := fun z => by
      obtain ⟨o, ho, hc', _⟩ := hit
      rw [z, ho] at hot
      cases hot
      rw [hc'] at hct
      exact absurd (Value.type.inj hct) (by decide)
    have ne2 : e ≠ a := fun z => by
      rw [← z] at hot
      have he' : s.heap.get? e = some _ := he
      rw [he'] at hot
      cases hot
      exact absurd (Value.type.inj hct) (by decide)
    have hel : e < s.heap.objs.size := Heap.lt_size he
    have hil : it < s.heap.objs.size := by obtain ⟨_, q, _⟩ := hit; exact Heap.lt_size q
    have D := Draws.tuple (prog := X.prog) (w := X.w) (A := X.A.in1) (I.ok.hd hc) it a ne1 its.toArray
    refine wpAny_pyNext_enum_itemD D he ⟨hit, p⟩ hi hne (by simp [hne, ne2]) fun x' h' tk hx' ho hst hT hsz hk => ?_
    have ex : x' = u := by
      rw [List.getElem?_toArray] at hx'
      exact Option.some.inj (hx'.symm.trans hu)
    subst ex
    refine ⟨_, rfl, wpAny_letOwnedTupleGo_enum (s := { s with heap := h', toks := tk + 1 }) ho fun h'' he' sb => ?_⟩
    have hT2 : h''.get? s.heap.objs.size = some { cls := .type "tuple", data := .seq #[.int i tk, x'] } := (sb.2 _ (Nat.ne_of_gt hel)).trans hT
    have new : ObjOk X.prog X.w (upd H s.heap.objs.size (.tup [.int (i : Nat), x])) h'' s.heap.objs.size (.tup [.int (i : Nat), x]) :=
      ⟨by show 2 ≤ sizeLine; decide, [.int i tk, x'], .cons ⟨_, rfl⟩ (.cons ru .nil), ⟨_, hT2, rfl, _, rfl⟩⟩
    have I1 : Inv X pins σ (upd H s.heap.objs.size (.tup [.int (i : Nat), x])) { s with heap := h'', toks := tk + 1 } :=
      I.turnedNew (ch := [e, it]) (fun b ob hb q => (sb.2 b (fun z => hb (by simp [z]))).trans (hk b ob (fun z => hb (by simp [z])) (fun z => hb (by simp [z])) q)) hf (Nat.le_refl _) new
    obtain ⟨oi, hoi, hci, hdi⟩ := hst.1
    refine ⟨.ref s.heap.objs.size, _, I1, rfl, ⟨_, x, rfl, I.hok.fresh (Nat.le_refl _), rfl, fun ys hy => by rw [tup_inj I hy hq]; exact hx⟩, ⟨⟨x', ?_⟩, ⟨oi, (sb.2 it (Ne.symm hne)).trans hoi, hci, hdi⟩, hne⟩, fun b hb => ?_⟩
    · have e1 : ((i + 1 : Nat) : Int) = (i : Int) + 1 := by omega
      rw [e1]; exact he'
    · have hb' : b < s.heap.objs.size := by
        have e' : b = e ∨ b = it := by simpa using hb
        rcases e' with z | z
        · rw [z]; exact hel
        · rw [z]; exact hil
      rw [upd_ne (Nat.ne_of_lt hb')]
      exact (hf b hb).1
  done := by
    intro X hP hw hK hc i pins s σ H E I hf st hg
    subst hP hw hK
    obtain ⟨⟨old, he⟩, hit, hne⟩ := st
    obtain ⟨xs, hq, hx⟩ := hg
    obtain ⟨its, rv, p, hz⟩ := I.tuple hq
    obtain ⟨f0, f1, f2, f3, f4, f5⟩ := hf it (by simp)
    have hl := rv.length
    exact enumT_end (I.ok.hd hc) he hit p (by rw [Array.getElem?_eq_none (by rw [List.size_toArray]; omega)]) fun h' eb => ⟨rfl, I.turned (t' := s.toks) (fun b o hb q => eb b o hb q) f0 f1 f3 f4 f5⟩
  self := fun A i s Q E st h => by
    obtain ⟨⟨_, he⟩, _⟩ := st
    exact wpAny_pyIter_enum he h
def iEnumT (K : PySem.W.Frag) (ta : TA) : TI := fun σ H R => ta σ H fun vs H1 => ∃ a xs, vs = [.ref a] ∧ ((SqL K H1 a xs ∧ R (Ite K a) H1) ∨ (SqT K H1 a xs ∧ R (ItE K a) H1))
theorem pi_enumT {X : Cx} {e : Expr} {ta : TA} {p pos tpos : Pos} {elts : List Expr} {kk : Nat} (hg : Gl X "enumerate") (hm : X.mg "enumerate" = none) (ha : PA X [e] ta) (hs : starEach [e] X.env = [(false, eval e X.env)] := by rfl) :
    PI X (.Tuple elts kk tpos) (.Call (.Name "enumerate" p) [e] [] pos) (iEnumT X.K ta) := by
  refine ⟨fun pins s σ H R I h => ?_⟩
  refine Call_ (ld_blt I hg hm boot_enumerate (PyProof.Rows.callWith_type1 (thn (ha.run pos pins s σ H _ I h) fun us s1 ⟨vs, H1, I1, r1, q1⟩ => ?_) hs rfl))
  obtain ⟨a, xs, ex, q1⟩ := q1
  subst ex
  cases r1 with
  | cons r rr =>
    cases rr
    cases r
    have old : ∀ b, (b = s1.heap.objs.size + 1 ∨ b = s1.heap.objs.size) → FpOk X pins H1 b := fun b e' => by
      have hle : s1.heap.objs.size ≤ b := by
        rcases e' with z | z
        · rw [z]; exact Nat.le_add_right _ _
        · rw [z]; exact Nat.le_refl _
      exact I1.fpOk hle (I1.hok.fresh hle)
    rcases q1 with ⟨hq, q⟩ | ⟨hq, q⟩
    · obtain ⟨its, rv, p', hz⟩ := I1.list hq
      refine call_enumerate_list p'.isList fun h' he hit hsz hk => wpAny_pyIter_enum he ?_
      exact ⟨s1.heap.objs.size + 1, [s1.heap.objs.size + 1, s1.heap.objs.size], _, _, H1, rfl, I1.kept (t' := s1.toks) hk, turn_enum a (s1.heap.objs.size + 1) s1.heap.objs.size, ⟨⟨.none, he⟩, hit, Nat.succ_ne_self _⟩, fun b hb => old b (by simpa using hb), q⟩
    · obtain ⟨its, rv, p', hz⟩ := I1.tuple hq
      refine call_enumT p' fun h' he hit hsz hk => wpAny_pyIter_enum he ?_
      exact ⟨s1.heap.objs.size + 1, [s1.heap.objs.size + 1, s1.heap.objs.size], _, _, H1, rfl, I1.kept (t' := s1.toks) hk, turn_enumT a (s1.heap.objs.size + 1) s1.heap.objs.size, ⟨⟨.none, he⟩, hit, Nat.succ_ne_self _⟩, fun b hb => old b (by simpa using hb), q⟩
/-! ### stores -/
theorem stE_ok {ρ ρ' : Env} {i : Nat} {s : Sl} (h : stE ρ i s = .ok ρ') : ρ' = ρ.set i s ∧ i < ρ.length ∧ ρ[i]? ≠ some .lk := by
  unfold stE at h
  split at h
  · cases h
  · rename_i t hn e
    cases h
    exact ⟨rfl, (List.getElem?_eq_some_iff.mp e).1, fun z => by rw [e] at z; cases z; exact hn rfl⟩
  · cases h
theorem stE_noexc {ρ : Env} {i : Nat} {s : Sl} {c : Nat} : stE ρ i s ≠ .exc c := by
  intro h
  unfold stE at h
  split at h <;> cases h
section
variable {K : PySem.W.Frag} {B : Bs} {F F' : Addr → Prop} {H H' : Hp} {σ : L2.St} {ρ ρ' : Env} {v : V} {d : D}
theorem get_set {α : Type} {l : List α} {i j : Nat} {a b : α} (h : (l.set i a)[j]? = some b) : (j = i ∧ b = a) ∨ (j ≠ i ∧ l[j]? = some b) := by
  by_cases e : j = i
  · subst e
    have hl : j < (l.set j a).length := (List.getElem?_eq_some_iff.mp h).1
    rw [List.length_set] at hl
    rw [List.getElem?_set_self hl] at h
    exact .inl ⟨rfl, (Option.some.inj h).symm⟩
  · rw [List.getElem?_set_ne (Ne.symm e)] at h
    exact .inr ⟨e, h⟩
theorem StOk.set {i : Nat} (st : StOk K B σ ρ F H) (hi : i < ρ.length) (hk : ρ[i]? ≠ some .lk) (r : Rep K F H v d) : StOk K B (σ.set i (some v)) (ρ.set i (.sh d)) F H := by
  have hs : i < σ.length := by rw [st.len]; exact hi
  refine ⟨by simp only [List.length_set]; exact st.len, st.ext, st.dom, st.dom0, fun j s e => ?_, fun j k dj dk e1 e2 hjk => ?_, fun j w e => ?_⟩
  · rcases get_set e with ⟨rfl, rfl⟩ | ⟨h1, h2⟩
    · rw [List.getElem?_set_self hs]; exact ⟨v, rfl, r⟩
    · rw [List.getElem?_set_ne (Ne.symm h1)]; exact st.sl j s h2
  · rcases get_set e1 with ⟨_, h⟩ | ⟨h1, h2⟩
    · cases h
    · rcases get_set e2 with ⟨_, h⟩ | ⟨h3, h4⟩
      · cases h
      · rw [List.getElem?_set_ne (Ne.symm h1), List.getElem?_set_ne (Ne.symm h3)]
        exact st.dis j k dj dk h2 h4 hjk
  · obtain ⟨h1, h2⟩ := st.lkd j w e
    have ne : j ≠ i := fun z => by subst z; exact hk h1
    rw [List.getElem?_set_ne (Ne.symm ne), List.getElem?_set_ne (Ne.symm ne)]
    exact ⟨h1, h2⟩
theorem StOk.own_at {i : Nat} {ds : List D} (st : StOk K B σ ρ F H) (h : ρ[i]? = some (.own (.lst ds))) : ∃ a xs, σ[i]? = some (some (.ref a)) ∧ ¬ F a ∧ B.H a = none ∧ H a = some (.lst xs) ∧ Reps K F H xs ds := st.sl i _ h
/-- a new thing becomes the name's own -/
theorem StOk.setNew {i : Nat} {a : Addr} {d : D} (st : StOk K B σ ρ F H) (hi : i < ρ.length) (hk : ρ[i]? ≠ some .lk) (e : Ext F F' H H') (hn : H a = none) (new : SlOk K B.H F' H' (some (some (.ref a))) (.own d)) :
    StOk K B (σ.set i (some (.ref a))) (ρ.set i (.own d)) F' H' := by
  have hs : i < σ.length := by rw [st.len]; exact hi
  have st' := st.mono e
  have apart : ∀ (j : Nat) (dj : D), ρ[j]? = some (.own dj) → σ[j]? ≠ some (some (.ref a)) := fun j dj q z => by
    have w := st.sl j _ q
    cases dj <;> try exact w
    · obtain ⟨b, ys, e1, _, _, e2, _⟩ := w
      rw [e1] at z
      cases z
      rw [hn] at e2; cases e2
    · obtain ⟨b, ys, e1, _, _, e2, _⟩ := w
      rw [e1] at z
      cases z
      rw [hn] at e2; cases e2
    · obtain ⟨b, ys, e1, _, _, e2, _⟩ := w
      rw [e1] at z
      cases z
      rw [hn] at e2; cases e2
  refine ⟨by simp only [List.length_set]; exact st.len, st'.ext, st'.dom, st'.dom0, fun j s q => ?_, fun j k dj dk e1 e2 hjk => ?_, fun j w q => ?_⟩
  · rcases get_set q with ⟨rfl, rfl⟩ | ⟨h1, h2⟩
    · rw [List.getElem?_set_self hs]; exact new
    · rw [List.getElem?_set_ne (Ne.symm h1)]; exact st'.sl j s h2
  · rcases get_set e1 with ⟨rfl, h⟩ | ⟨h1, h2⟩
    · rcases get_set e2 with ⟨h3, _⟩ | ⟨h3, h4⟩
      · exact absurd h3.symm hjk
      · rw [List.getElem?_set_self hs, List.getElem?_set_ne (Ne.symm h3)]
        exact fun z => apart k dk h4 z.symm
    · rcases get_set e2 with ⟨rfl, h⟩ | ⟨h3, h4⟩
      · rw [List.getElem?_set_self hs, List.getElem?_set_ne (Ne.symm h1)]
        exact apart j dj h2
      · rw [List.getElem?_set_ne (Ne.symm h1), List.getElem?_set_ne (Ne.symm h3)]
        exact st.dis j k dj dk h2 h4 hjk
  · obtain ⟨h1, h2⟩ := st.lkd j w q
    have ne : j ≠ i := fun z => by subst z; exact hk h1
    rw [List.getElem?_set_ne (Ne.symm ne), List.getElem?_set_ne (Ne.symm ne)]
    exact ⟨h1, h2⟩
theorem StOk.setOwn {i : Nat} {a : Addr} {xs : List V} {ds : List D} (st : StOk K B σ ρ F H) (hi : i < ρ.length) (hk : ρ[i]? ≠ some .lk) (e : Ext F F' H H') (nf : ¬ F' a) (hn : H a = none) (ha : H' a = some (.lst xs)) (r : Reps K F' H' xs ds) :
    StOk K B (σ.set i (some (.ref a))) (ρ.set i (.own (.lst ds))) F' H' := st.setNew hi hk e hn ⟨a, xs, rfl, nf, st.ext.back hn, ha, r⟩
end
/-! ### targets -/
/-- a store to a target; only its slots change -/
def tgR (K : PySem.W.Frag) (B : Bs) (t : Tg) : TG := fun v σ H Q => ∃ ρ F d, StOk K B σ ρ F H ∧ Rep K F H v d ∧ ∃ ρ', setT t d ρ = .ok ρ' ∧ ∀ σ', StOk K B σ' ρ' F H → σ'.length = σ.length → (∀ i, i ∉ slotsT t → σ'[i]? = σ[i]?) → Q σ' H
def tgsR (K : PySem.W.Frag) (B : Bs) (t : Tgs) : TGs := fun vs σ H Q => ∃ ρ F ds, StOk K B σ ρ F H ∧ Reps K F H vs ds ∧ ∃ ρ', setTs t ds ρ = .ok ρ' ∧ ∀ σ', StOk K B σ' ρ' F H → σ'.length = σ.length → (∀ i, i ∉ slotsTs t → σ'[i]? = σ[i]?) → Q σ' H
theorem PG.imp {X : Cx} {e : Expr} {t t' : TG} (h : PG X e t) (k : ∀ v σ H Q, t' v σ H Q → t v σ H Q) : PG X e t' := ⟨fun pins s σ H v u Q I r q => h.run pins s σ H v u Q I r (k _ _ _ _ q)⟩
theorem PGs.imp {X : Cx} {e : List Expr} {t t' : TGs} (h : PGs X e t) (k : ∀ v σ H Q, t' v σ H Q → t v σ H Q) : PGs X e t' := ⟨fun pins s σ H v u Q I r q => h.run pins s σ H v u Q I r (k _ _ _ _ q)⟩
theorem assign_cons {e : Expr} (h : plainX e = true) (es : List Expr) (env : PySem.Env) : assignEach (e :: es) env = (false, PySem.assign e env) :: assignEach es env := by
  cases e <;> first | rfl | cases h
theorem assign_len (env : PySem.Env) : ∀ {es : List Expr}, es.all plainX = true → (assignEach es env).length = es.length ∧ (assignEach es env).findIdx? (·.1) = none
  | [], _ => ⟨rfl, rfl⟩
  | e :: es, h => by
    simp only [List.all_cons, Bool.and_eq_true] at h
    obtain ⟨h1, h2⟩ := assign_len env h.2
    rw [assign_cons h.1]
    exact ⟨by simp only [List.length_cons, h1], by simp only [List.findIdx?_cons, h2]; rfl⟩
theorem chkGs_plain {N : List Str} {sc : Scope} {fn : Str → Bool} : ∀ {ts : Tgs} {es : List Expr}, chkGs N sc fn ts es = true → es.all plainX = true
  | .nil, [], _ => rfl
  | .nil, _ :: _, h => by cases h
  | .cons _ _, [], h => by cases h
  | .cons t ts, e :: es, h => by
    simp only [chkGs, Bool.and_eq_true] at h
    simp only [List.all_cons, Bool.and_eq_true]
    exact ⟨h.1.1, chkGs_plain h.2⟩
def lenTs : Tgs → Nat
  | .nil => 0
  | .cons _ ts => lenTs ts + 1
theorem chkGs_len {N : List Str} {sc : Scope} {fn : Str → Bool} : ∀ {ts : Tgs} {es : List Expr}, chkGs N sc fn ts es = true → es.length = lenTs ts
  | .nil, [], _ => rfl
  | .nil, _ :: _, h => by cases h
  | .cons _ _, [], h => by cases h
  | .cons t ts, e :: es, h => by
    simp only [chkGs, Bool.and_eq_true] at h
    simp only [List.length_cons, lenTs, chkGs_len h.2]
theorem setTs_len : ∀ {ts : Tgs} {ds : List D} {ρ ρ' : Env}, setTs ts ds ρ = .ok ρ' → ds.length = lenTs ts
  | .nil, [], _, _, _ => rfl
  | .nil, _ :: _, _, _, h => by cases h
  | .cons _ _, [], _, _, h => by cases h
  | .cons t ts, d :: ds, ρ, ρ', h => by
    simp only [setTs] at h
    cases e : setT t d ρ with
    | ok ρ1 => rw [e] at h; simp only [List.length_cons, lenTs, setTs_len (show setTs ts ds ρ1 = .ok ρ' from h)]
    | exc c => rw [e] at h; cases h
    | stk => rw [e] at h; cases h
section
variable {T : Tab} {N : List Str} {n : Nat} {Φ : Nat → List D → R D} {C : Nat → D} {ca : Nat → Addr} {sc : Scope} {fn : Str → Bool} {X : Cx} {W : WX} {B : Bs}
mutual
theorem pg_ok (G : GX T N n Φ C ca sc fn X W) : ∀ {t : Tg} {x : Expr}, chkG N sc fn t x = true → PG X x (tgR X.K B t)
  | .var i, x, h => by
    cases x <;> try (cases h; done)
    rename_i y yp
    simp only [chkG, Bool.and_eq_true, decide_eq_true_eq, Bool.or_eq_true] at h
    obtain ⟨h1, h2⟩ := h
    have hl : L2.Loc X.env.scope y := by
      unfold L2.Loc
      rw [G.scope]
      rcases h2 with h2 | h2
      · exact .inl h2
      · exact .inr h2.1
    have hf : X.fn y = true ∨ X.env.scope.names.lookup y = some .local := by
      rcases h2 with h2 | h2
      · exact .inr (by rw [G.scope]; exact h2)
      · exact .inl (G.fnc _ h2.2)
    refine PG.imp (pg_name (i := i) (by rw [G.names]; exact G.nd) (by rw [G.names]; exact h1) hl hf) fun v σ H Q ⟨ρ, F, d, st, r, ρ', e, q⟩ => ?_
    obtain ⟨rfl, hi, hk⟩ := stE_ok e
    refine q _ (st.set hi hk r) (List.length_set ..) fun j hj => ?_
    rw [List.getElem?_set_ne]
    intro z
    exact hj (by simp [slotsT, z])
  | .tup ts, x, h => by
    cases x <;> try (cases h; done)
    rename_i es k p
    have hp := chkGs_plain (show chkGs N sc fn ts es = true from h)
    obtain ⟨l1, l2⟩ := assign_len X.env hp
    have hg := pgs_ok G (show chkGs N sc fn ts es = true from h)
    have ln := chkGs_len (show chkGs N sc fn ts es = true from h)
    refine ⟨fun pins s σ H v u Q I rv ⟨ρ, F, d, st, r, ρ', e, q⟩ => ?_⟩
    cases d <;> try (cases e; done)
    · cases r with
      | lst r1 t1 =>
        exact (pg_lst (X := X) (k := k) (pos := p) G.calm hg l1 l2).run pins s σ H _ u Q I rv ⟨_, _, rfl, r1.sq, by rw [t1.length, setTs_len e, ln], ρ, F, _, st, t1, ρ', e, q⟩
    · cases r with
      | tup r1 _ t1 =>
        exact (pg_tup (X := X) (k := k) (pos := p) G.calm hg l1 l2).run pins s σ H _ u Q I rv ⟨_, _, rfl, r1, by rw [t1.length, setTs_len e, ln], ρ, F, _, st, t1, ρ', e, q⟩
theorem pgs_ok (G : GX T N n Φ C ca sc fn X W) : ∀ {t : Tgs} {xs : List Expr}, chkGs N sc fn t xs = true → PGs X xs (tgsR X.K B t)
  | .nil, xs, h => by
    cases xs <;> try (cases h; done)
    refine PGs.imp pgs_nil fun vs σ H Q ⟨ρ, F, ds, st, r, ρ', e, q⟩ => ?_
    cases ds <;> try (cases e; done)
    cases e
    cases r
    exact ⟨rfl, q σ st rfl fun _ _ => rfl⟩
  | .cons t ts, xs, h => by
    cases xs <;> try (cases h; done)
    rename_i x xs
    simp only [chkGs, Bool.and_eq_true] at h
    obtain ⟨⟨h0, h1⟩, h2⟩ := h
    refine PGs.imp (pgs_cons (pg_ok G h1) (pgs_ok G h2) (by rw [assign_cons h0]; rfl)) fun vs σ H Q ⟨ρ, F, ds, st, r, ρ', e, q⟩ => ?_
    cases r with
    | nil => cases e
    | cons r1 r2 =>
      simp only [setTs] at e
      cases e1 : setT t _ ρ with
      | exc c => rw [e1] at e; cases e
      | stk => rw [e1] at e; cases e
      | ok ρ1 =>
        rw [e1] at e
        refine ⟨_, _, rfl, ρ, F, _, st, r1, ρ1, e1, fun σ1 st1 ln1 s1 => ⟨ρ1, F, _, st1, r2, ρ', e, fun σ2 st2 ln2 s2 => ?_⟩⟩
        refine q σ2 st2 (ln2.trans ln1) fun i hi => ?_
        simp only [slotsTs, List.mem_append, not_or] at hi
        exact (s2 i hi.2).trans (s1 i hi.1)
end
end
/-! ### what is walked -/
/-- J walks the data l, wherever what is frozen and the lists of S stand -/
def Wk (K : PySem.W.Frag) (J : It) (l : List D) (S : Addr → Prop) (F : Addr → Prop) (H : Hp) : Prop := ∀ F1 H1, (∀ a, F a → F1 a) → Pres F H H1 → (∀ a xs, S a → H a = some (.lst xs) → H1 a = some (.lst xs)) → Dom F1 H1 →
  (∀ (i : Nat) (d : D), l[i]? = some d → J.go i H1 ∧ ∀ x H2, J.yld i H1 x H2 → Ext F1 F1 H1 H2 ∧ Rep K F1 H2 x d) ∧ ∀ i, l.length ≤ i → J.stop i H1
def tI (K : PySem.W.Frag) (B : Bs) (Wc : Nat → L2.St → Hp → Prop) (x : Bool) (f : Env → R (List D)) : TI := fun σ H R' => ∃ ρ F, StOk K B σ ρ F H ∧ match f ρ with
  | .ok l => ∀ J S F' H', Ext F F' H H' → (x = false → ∀ a, ¬ S a) → Wk K J l S F' H' → R' J H'
  | .exc c => ∀ F' H', Ext F F' H H' → Wc c σ H'
  | .stk => False
section
variable {K : PySem.W.Frag} {B : Bs} {Wc : Nat → L2.St → Hp → Prop} {F F' : Addr → Prop} {H H' : Hp} {σ : L2.St} {ρ ρ' : Env} {v : V} {d : D}
theorem Reps.mono' {F1 : Addr → Prop} {H1 : Hp} (sub : ∀ a, F a → F1 a) (p : Pres F H H1) {xs : List V} {ds : List D} (r : Reps K F H xs ds) : Reps K F1 H1 xs ds := r.pres p sub
/-- a list: frozen, or an own one that stays -/
theorem wk_list {a : Addr} {xs : List V} {ds : List D} (S : Addr → Prop) (h : LsAt K F H a xs ∨ (S a ∧ H a = some (.lst xs))) (r : Reps K F H xs ds) : Wk K (Itl K a) ds S F H := by
  intro F1 H1 sub p ps dm
  have hq : SqL K H1 a xs := by
    rcases h with h | ⟨h1, h2⟩
    · exact (h.pres p sub).sq
    · exact .inl (.inl (ps _ _ h1 h2))
  have r1 := r.pres p sub
  refine ⟨fun i d e => ?_, fun i hi => ⟨xs, hq, by rw [r.length]; exact hi⟩⟩
  obtain ⟨v, e1, r2⟩ := r1.get e
  refine ⟨⟨xs, v, hq, e1⟩, fun x H2 y => ?_⟩
  obtain ⟨rfl, y2⟩ := y
  have e2 := y2 xs hq
  rw [e1] at e2; cases e2
  exact ⟨Ext.refl, r2⟩
theorem wk_tup {a : Addr} {xs : List V} {ds : List D} (S : Addr → Prop) (h : SqT K H a xs) (r : Reps K F H xs ds) : Wk K (Itt K a) ds S F H := by
  intro F1 H1 sub p ps dm
  have hq : SqT K H1 a xs := sqT_pres p h
  have r1 := r.pres p sub
  refine ⟨fun i d e => ?_, fun i hi => ⟨xs, hq, by rw [r.length]; exact hi⟩⟩
  obtain ⟨v, e1, r2⟩ := r1.get e
  refine ⟨⟨xs, v, hq, e1⟩, fun x H2 y => ?_⟩
  obtain ⟨rfl, y2⟩ := y
  have e2 := y2 xs hq
  rw [e1] at e2; cases e2
  exact ⟨Ext.refl, r2⟩
theorem rngL_get {lo : Int} {m i : Nat} {d : D} (h : (rngL lo m)[i]? = some d) : i < m ∧ d = .int (lo + (i : Nat)) := by
  unfold rngL at h
  rw [List.getElem?_map] at h
  by_cases hi : i < m
  · rw [List.getElem?_range hi] at h
    exact ⟨hi, (Option.some.inj h).symm⟩
  · rw [List.getElem?_eq_none (by simpa using hi)] at h
    cases h
theorem rngL_len {lo : Int} {m : Nat} : (rngL lo m).length = m := by simp [rngL]
theorem wk_rng {lo : Int} {m : Nat} (S : Addr → Prop) : Wk K (Itr lo m) (rngL lo m) S F H := by
  intro F1 H1 sub p ps dm
  refine ⟨fun i d e => ?_, fun i hi => by rw [rngL_len] at hi; exact hi⟩
  obtain ⟨hi, rfl⟩ := rngL_get e
  refine ⟨hi, fun x H2 y => ?_⟩
  obtain ⟨rfl, rfl⟩ := y
  exact ⟨Ext.refl, .int _⟩
theorem rngC_get {lo c : Int} {m i : Nat} {d : D} (h : (rngC lo c m)[i]? = some d) : i < m ∧ d = .int (lo + (i : Nat) * c) := by
  unfold rngC at h
  rw [List.getElem?_map] at h
  by_cases hi : i < m
  · rw [List.getElem?_range hi] at h
    exact ⟨hi, (Option.some.inj h).symm⟩
  · rw [List.getElem?_eq_none (by simpa using hi)] at h
    cases h
theorem rngC_len {lo c : Int} {m : Nat} : (rngC lo c m).length = m := by simp [rngC]
theorem wk_rngC {lo c : Int} {m : Nat} (S : Addr → Prop) : Wk K (Itc lo c m) (rngC lo c m) S F H := by
  intro F1 H1 sub p ps dm
  refine ⟨fun i d e => ?_, fun i hi => by rw [rngC_len] at hi; exact hi⟩
  obtain ⟨hi, rfl⟩ := rngC_get e
  refine ⟨hi, fun x H2 y => ?_⟩
  obtain ⟨rfl, rfl⟩ := y
  exact ⟨Ext.refl, .int _⟩
theorem enmL_get {l : List D} {i : Nat} {d : D} (h : (enmL l)[i]? = some d) : ∃ e, l[i]? = some e ∧ d = .tup [.int (i : Nat), e] := by
  unfold enmL at h
  rw [List.getElem?_map] at h
  cases q : ((List.range l.length).zip l)[i]? with
  | none => rw [q] at h; cases h
  | some p =>
    rw [q] at h
    obtain ⟨h1, h2⟩ := List.getElem?_zip_eq_some.mp q
    have hi : i < l.length := (List.getElem?_eq_some_iff.mp h2).1
    rw [List.getElem?_range hi] at h1
    refine ⟨p.2, h2, ?_⟩
    cases h1
    exact (Option.some.inj h).symm
theorem enmL_len {l : List D} : (enmL l).length = l.length := by simp [enmL]
theorem pres_upd {p : Addr} {o : HO} (h : H p = none) : Pres F H (upd H p o) := (Ext.upd (F := F) h).pres
theorem wk_enm {a : Addr} {xs : List V} {ds : List D} (S : Addr → Prop) (h : LsAt K F H a xs ∨ (S a ∧ H a = some (.lst xs))) (r : Reps K F H xs ds) : Wk K (Ite K a) (enmL ds) S F H := by
  intro F1 H1 sub p ps dm
  have hq : SqL K H1 a xs := by
    rcases h with h | ⟨h1, h2⟩
    · exact (h.pres p sub).sq
    · exact .inl (.inl (ps _ _ h1 h2))
  have r1 := r.pres p sub
  refine ⟨fun i d e => ?_, fun i hi => ⟨xs, hq, by rw [enmL_len] at hi; rw [r.length]; exact hi⟩⟩
  obtain ⟨f, e0, rfl⟩ := enmL_get e
  obtain ⟨v, e1, r2⟩ := r1.get e0
  refine ⟨⟨xs, v, hq, e1⟩, fun x H2 y => ?_⟩
  obtain ⟨A, z, rfl, hA, rfl, y2⟩ := y
  have e2 := y2 xs hq
  rw [e1] at e2; cases e2
  exact ⟨Ext.upd hA, .tup (.inl (.inl upd_same)) (fun _ => upd_same) (.cons (.int _) (.cons (r2.ext (Ext.upd hA)) .nil))⟩
theorem wk_enmT {a : Addr} {xs : List V} {ds : List D} (S : Addr → Prop) (h : SqT K H a xs) (r : Reps K F H xs ds) : Wk K (ItE K a) (enmL ds) S F H := by
  intro F1 H1 sub p ps dm
  have hq : SqT K H1 a xs := sqT_pres p h
  have r1 := r.pres p sub
  refine ⟨fun i d e => ?_, fun i hi => ⟨xs, hq, by rw [enmL_len] at hi; rw [r.length]; exact hi⟩⟩
  obtain ⟨f, e0, rfl⟩ := enmL_get e
  obtain ⟨v, e1, r2⟩ := r1.get e0
  refine ⟨⟨xs, v, hq, e1⟩, fun x H2 y => ?_⟩
  obtain ⟨A, z, rfl, hA, rfl, y2⟩ := y
  have e2 := y2 xs hq
  rw [e1] at e2; cases e2
  exact ⟨Ext.upd hA, .tup (.inl (.inl upd_same)) (fun _ => upd_same) (.cons (.int _) (.cons (r2.ext (Ext.upd hA)) .nil))⟩
theorem zipL_get {l m : List D} {i : Nat} {d : D} (h : (zipL l m)[i]? = some d) : ∃ e f, l[i]? = some e ∧ m[i]? = some f ∧ d = .tup [e, f] := by
  unfold zipL at h
  rw [List.getElem?_map] at h
  cases q : (l.zip m)[i]? with
  | none => rw [q] at h; cases h
  | some p =>
    rw [q] at h
    obtain ⟨h1, h2⟩ := List.getElem?_zip_eq_some.mp q
    exact ⟨p.1, p.2, h1, h2, (Option.some.inj h).symm⟩
theorem zipL_len {l m : List D} : (zipL l m).length = min l.length m.length := by simp [zipL]
theorem wk_zip {a b : Addr} {xs ys : List V} {ds es : List D} (S : Addr → Prop) (h : LsAt K F H a xs ∨ (S a ∧ H a = some (.lst xs))) (h' : LsAt K F H b ys ∨ (S b ∧ H b = some (.lst ys))) (r : Reps K F H xs ds) (r' : Reps K F H ys es) : Wk K (Itz K a b) (zipL ds es) S F H := by
  intro F1 H1 sub p ps dm
  have hq : ∀ {a xs}, (LsAt K F H a xs ∨ (S a ∧ H a = some (.lst xs))) → SqL K H1 a xs := fun {a xs} h => by
    rcases h with h | ⟨h1, h2⟩
    · exact (h.pres p sub).sq
    · exact .inl (.inl (ps _ _ h1 h2))
  have r1 := r.pres p sub
  have r1' := r'.pres p sub
  refine ⟨fun i d e => ?_, fun i hi => ⟨xs, ys, hq h, hq h', by rw [zipL_len] at hi; rw [r.length, r'.length]; omega⟩⟩
  obtain ⟨f, g, e0, e0', rfl⟩ := zipL_get e
  obtain ⟨v, e1, r2⟩ := r1.get e0
  obtain ⟨v', e1', r2'⟩ := r1'.get e0'
  refine ⟨⟨xs, ys, v, v', hq h, hq h', e1, e1'⟩, fun x H2 y => ?_⟩
  obtain ⟨A, z, z', rfl, hA, rfl, y2, y2'⟩ := y
  have e2 := y2 xs (hq h)
  have e2' := y2' ys (hq h')
  rw [e1] at e2; cases e2
  rw [e1'] at e2'; cases e2'
  exact ⟨Ext.upd hA, .tup (.inl (.inl upd_same)) (fun _ => upd_same) (.cons (r2.ext (Ext.upd hA)) (.cons (r2'.ext (Ext.upd hA)) .nil))⟩
theorem wk_zipT {a b : Addr} {xs ys : List V} {ds es : List D} (S : Addr → Prop) (h : SqT K H a xs) (h' : SqT K H b ys) (r : Reps K F H xs ds) (r' : Reps K F H ys es) : Wk K (RZ.ItzT K a b) (zipL ds es) S F H := by
  intro F1 H1 sub p ps dm
  have hq : SqT K H1 a xs := sqT_pres p h
  have hq' : SqT K H1 b ys := sqT_pres p h'
  have r1 := r.pres p sub
  have r1' := r'.pres p sub
  refine ⟨fun i d e => ?_, fun i hi => ⟨xs, ys, hq, hq', by rw [zipL_len] at hi; rw [r.length, r'.length]; omega⟩⟩
  obtain ⟨f, g, e0, e0', rfl⟩ := zipL_get e
  obtain ⟨v, e1, r2⟩ := r1.get e0
  obtain ⟨v', e1', r2'⟩ := r1'.get e0'
  refine ⟨⟨xs, ys, v, v', hq, hq', e1, e1'⟩, fun x H2 y => ?_⟩
  obtain ⟨A, z, z', rfl, hA, rfl, y2, y2'⟩ := y
  have e2 := y2 xs hq
  have e2' := y2' ys hq'
  rw [e1] at e2; cases e2
  rw [e1'] at e2'; cases e2'
  exact ⟨Ext.upd hA, .tup (.inl (.inl upd_same)) (fun _ => upd_same) (.cons (r2.ext (Ext.upd hA)) (.cons (r2'.ext (Ext.upd hA)) .nil))⟩
end
end Rv
/-! Dicts that a frame alone knows, `in`, sorted sets. -/
namespace Rv
open PySem PySem.Spec PyProof.Rows L2
section
variable {K : PySem.W.Frag} {F F' : Addr → Prop} {H H' : Hp} {σ : L2.St} {ρ : Env} {B : Bs}
theorem keyD_rep {v : V} {d : D} {k : Key} (r : Rep K F H v d) (h : keyD d = some k) : v = kV k := by
  cases r <;> simp only [keyD] at h <;> first | (cases h; rfl) | cases h
theorem keysD_reps : ∀ {vs : List V} {ds : List D} {ks : List Key}, Reps K F H vs ds → keysD ds = some ks → vs = ks.map kV
  | _, [], ks, .nil, h => by cases h; rfl
  | _, d :: ds, ks, .cons r t, h => by
    simp only [keysD] at h
    cases e : keyD d with
    | none => rw [e] at h; cases h
    | some k =>
      rw [e] at h
      simp only [Option.map_eq_some_iff] at h
      obtain ⟨ms, h1, rfl⟩ := h
      rw [keyD_rep r e, keysD_reps t h1]; rfl
/-- where an own dict stands -/
inductive DicAt (K : PySem.W.Frag) (F : Addr → Prop) (H : Hp) (a : Addr) : D → Prop
  | k {l : List (Key × D)} {xs : List (Key × V)} : H a = some (.dK xs) → RepsA K F H xs l → DicAt K F H a (.dK l)
  | t {l : List (List Key × D)} {xs : List (List Key × V)} : H a = some (.dT xs) → RepsA K F H xs l → DicAt K F H a (.dT l)
theorem StOk.dic {i : Nat} {t : D} (st : StOk K B σ ρ F H) (h : dV ρ i = .ok t) : ∃ a, σ[i]? = some (some (.ref a)) ∧ DicAt K F H a t := by
  unfold dV at h
  split at h
  · rename_i l e
    cases h
    obtain ⟨a, xs, h1, _, h2, h3, h4⟩ := st.sl i _ e
    exact ⟨a, h1, .k h3 h4⟩
  · rename_i l e
    cases h
    obtain ⟨a, xs, h1, _, h2, h3, h4⟩ := st.sl i _ e
    exact ⟨a, h1, .t h3 h4⟩
  · rename_i l e
    cases h
    obtain ⟨x, h1, r⟩ := st.sl i _ e
    cases r with
    | dK h2 h3 h4 h5 => exact ⟨_, h1, .k h3 (.of h4 h5)⟩
  · rename_i l e
    cases h
    obtain ⟨x, h1, r⟩ := st.sl i _ e
    cases r with
    | dT h2 h3 h4 h5 => exact ⟨_, h1, .t h3 (.of h4 h5)⟩
  · cases h
theorem StOk.dicO {i : Nat} {t : D} (st : StOk K B σ ρ F H) (h : dO ρ i = .ok t) : ∃ a, ρ[i]? = some (.own t) ∧ σ[i]? = some (some (.ref a)) ∧ ¬ F a ∧ B.H a = none ∧ DicAt K F H a t := by
  unfold dO at h
  split at h
  · rename_i l e
    cases h
    obtain ⟨a, xs, h1, nf, h2, h3, h4⟩ := st.sl i _ e
    exact ⟨a, e, h1, nf, h2, .k h3 h4⟩
  · rename_i l e
    cases h
    obtain ⟨a, xs, h1, nf, h2, h3, h4⟩ := st.sl i _ e
    exact ⟨a, e, h1, nf, h2, .t h3 h4⟩
  · cases h
theorem dO_noexc {i c : Nat} : dO ρ i ≠ .exc c := by
  unfold dO
  split <;> intro h <;> cases h
theorem dV_noexc {i c : Nat} : dV ρ i ≠ .exc c := by
  unfold dV
  split <;> intro h <;> cases h
theorem DicAt.isD {a : Addr} {t : D} (h : DicAt K F H a t) : IsD H a := by
  cases h with
  | k h _ => exact .inl ⟨_, .inl h⟩
  | t h _ => exact .inr ⟨_, .inl h⟩
theorem DicAt.ext {a : Addr} {t : D} (h : DicAt K F H a t) (e : Ext F F' H H') : DicAt K F' H' a t := by
  cases h with
  | k h r => exact .k (e.keep _ _ h) (r.ext e)
  | t h r => exact .t (e.keep _ _ h) (r.ext e)
/-- a look-up -/
theorem DicAt.get {a : Addr} {t y : D} {v : V} {o : Option D} (h : DicAt K F H a t) (r : Rep K F H v y) (e : getT t y = .ok o) : ∃ ov, DGet H a v ov ∧ ((o = none ∧ ov = none) ∨ ∃ d x, o = some d ∧ ov = some x ∧ Rep K F H x d) := by
  cases h with
  | k h ra =>
    simp only [getT] at e
    cases q : keyD y with
    | none => rw [q] at e; cases e
    | some k =>
      rw [q] at e
      cases e
      rw [keyD_rep r q]
      refine ⟨_, DGet.k h, ?_⟩
      rcases ra.val k with ⟨h1, h2⟩ | ⟨x, d, h1, h2, h3⟩
      · exact .inl ⟨h1, h2⟩
      · exact .inr ⟨d, x, h1, h2, h3⟩
  | t h ra =>
    cases y <;> try (cases e; done)
    rename_i ks
    simp only [getT] at e
    split at e
    · cases e
    · rename_i hb
      cases q : keysD ks with
      | none => rw [q] at e; cases e
      | some k =>
        rw [q] at e
        cases e
        cases r with
        | tup _ hk rr =>
          have h1 := hk (by simpa using hb)
          rw [keysD_reps rr q] at h1
          refine ⟨_, DGet.t h h1, ?_⟩
          rcases ra.val k with ⟨h1, h2⟩ | ⟨x, d, h1, h2, h3⟩
          · exact .inl ⟨h1, h2⟩
          · exact .inr ⟨d, x, h1, h2, h3⟩
theorem getT_noexc {t y : D} {c : Nat} : getT t y ≠ .exc c := by
  intro h
  unfold getT at h
  split at h
  · split at h <;> cases h
  · split at h
    · cases h
    · split at h <;> cases h
  · cases h
/-- a store -/
theorem DicAt.put {a : Addr} {t t' y z : D} {v w : V} (h : DicAt K F H a t) (r : Rep K F H v y) (rz : Rep K F H w z) (e : putT t y z = .ok t') :
    ∃ o, DPut H a v w (upd H a o) ∧ ((∃ l xs, t' = .dK l ∧ o = .dK xs ∧ RepsA K F H xs l) ∨ ∃ l xs, t' = .dT l ∧ o = .dT xs ∧ RepsA K F H xs l) := by
  cases h with
  | k h ra =>
    simp only [putT] at e
    cases q : keyD y with
    | none => rw [q] at e; cases e
    | some k =>
      rw [q] at e
      dsimp only at e
      split at e
      · rename_i hl
        cases e
        rw [keyD_rep r q]
        exact ⟨_, DPut.k h (ll_lt (by rw [ra.length]; exact hl)), .inl ⟨_, _, rfl, rfl, ra.put k rz⟩⟩
      · cases e
  | t h ra =>
    cases y <;> try (cases e; done)
    rename_i ks
    simp only [putT] at e
    split at e
    · cases e
    · rename_i hb
      cases q : keysD ks with
      | none => rw [q] at e; cases e
      | some k =>
        rw [q] at e
        dsimp only at e
        split at e
        · rename_i hl
          cases e
          cases r with
          | tup _ hk rr =>
            have h1 := hk (by simpa using hb)
            rw [keysD_reps rr q] at h1
            exact ⟨_, DPut.t h h1 (ll_lt (by rw [ra.length]; exact hl)), .inr ⟨_, _, rfl, rfl, ra.put k rz⟩⟩
        · cases e
theorem putT_noexc {t y z : D} {c : Nat} : putT t y z ≠ .exc c := by
  intro h
  unfold putT at h
  split at h
  · split at h
    · split at h <;> cases h
    · cases h
  · split at h
    · cases h
    · split at h
      · split at h <;> cases h
      · cases h
  · cases h
theorem srtD_noexc {t : D} {c : Nat} : srtD t ≠ .exc c := by
  intro h
  unfold srtD at h
  split at h
  · split at h
    · split at h <;> cases h
    · cases h
  · split at h
    · split at h <;> cases h
    · cases h
  · cases h
theorem intKs_map {l : List (Key × D)} {ns : List Int} (h : intKs l = some ns) : l.map (·.1) = ns.map Sum.inl := by
  induction l generalizing ns with
  | nil => cases h; rfl
  | cons p l ih =>
    obtain ⟨k, d⟩ := p
    cases k with
    | inr s => cases h
    | inl i =>
      simp only [intKs, Option.map_eq_some_iff] at h
      obtain ⟨ms, h1, rfl⟩ := h
      rw [List.map_cons, List.map_cons, ih h1]
theorem intK_map {k : List Key} {ns : List Int} (h : intK k = some ns) : k = ns.map Sum.inl := by
  induction k generalizing ns with
  | nil => cases h; rfl
  | cons p l ih =>
    cases p with
    | inr s => cases h
    | inl i =>
      simp only [intK, Option.map_eq_some_iff] at h
      obtain ⟨ms, h1, rfl⟩ := h
      rw [List.map_cons, ih h1]
theorem tupKs_map {l : List (List Key × D)} {ns : List (List Int)} (h : tupKs l = some ns) : l.map (·.1) = ns.map (fun k => k.map Sum.inl) := by
  induction l generalizing ns with
  | nil => cases h; rfl
  | cons p l ih =>
    obtain ⟨k, d⟩ := p
    simp only [tupKs] at h
    cases e : intK k with
    | none => rw [e] at h; cases h
    | some x =>
      rw [e] at h
      simp only [Option.map_eq_some_iff] at h
      obtain ⟨ms, h1, rfl⟩ := h
      rw [List.map_cons, List.map_cons, ih h1, intK_map e]
theorem reps_int : ∀ ns : List Int, Reps K F H (ns.map V.int) (ns.map D.int)
  | [] => .nil
  | n :: ns => .cons (.int n) (reps_int ns)
theorem reps_tups : ∀ {ns : List (List Int)} {xs : List V}, Paired (fun n x => ∃ t, x = V.ref t ∧ H t = some (.tup (n.map V.int))) ns xs → Reps K F H xs (ns.map tupD)
  | _, _, .nil => .nil
  | _, _, .cons ⟨t, e, h⟩ r => by
    subst e
    exact .cons (.tup (.inl (.inl h)) (fun _ => h) (reps_int _)) (reps_tups r)
end
section
variable {T : Tab} {N : List Str} {n : Nat} {Φ : Nat → List D → R D} {C : Nat → D} {ca : Nat → Addr} {sc : Scope} {fn : Str → Bool} {X : Cx} {W : WX} {B : Bs}
theorem pe_name {i : Nat} {x : Expr} (G : GX T N n Φ C ca sc fn X W) (h : chkV N sc i x = true) : PE X x (tVar i) ∧ ∃ y p, x = .Name y p := by
  cases x <;> try (cases h; done)
  simp only [chkV, Bool.and_eq_true, decide_eq_true_eq] at h
  obtain ⟨⟨h1, h2⟩, h3⟩ := h
  exact ⟨pe_var (by rw [G.names]; exact h1) (G.vis h2) (okN_dbg h3) (okN_cd h3), _, _, rfl⟩
/-- an own dict, then the rest -/
theorem oc_dic {δ γ : Type} {rel' : (Addr → Prop) → Hp → (Addr → Prop) → Hp → δ → γ → Prop} {Wc : Nat → Hp → Prop} {F : Addr → Prop} {H : Hp} {ρ : Env} {i : Nat} {g : D → R γ} {Q : δ → Hp → Prop}
    (o : Oc rel' Wc F H Q ((dV ρ i).bind g)) : ∃ t, dV ρ i = .ok t ∧ Oc rel' Wc F H Q (g t) := by
  cases e : dV ρ i with
  | ok t => rw [e] at o; exact ⟨t, rfl, o⟩
  | exc c => exact absurd e dV_noexc
  | stk => rw [e] at o; exact o.elim
theorem plain_sl {y : Expr} (h : plainX y = true) : NoSl y := fun o i => by cases y <;> first | rfl | cases h
theorem ok_dix {i : Nat} {k : Ex} (ok : OkE T N n Φ C ca k) : OkE T N n Φ C ca (.dix i k) := by
  intro x sc fn X W G h B
  cases x <;> try (cases h; done)
  rename_i u v p
  have h' : (plainX v = true ∧ chkV N sc i u = true) ∧ chkE T N sc k v = true := by
    unfold chkE at h
    simpa only [Bool.and_eq_true] using h
  obtain ⟨⟨h1, h2⟩, h3⟩ := h'
  refine both_def (pe_dget (by have := units_of G; omega) (pe_name G h2).1 (ok.sh G h3 B) (plain_sl h1)) rfl fun σ H Q ⟨ρ, F, st, o⟩ => ?_
  obtain ⟨t, e, o⟩ := oc_dic o
  obtain ⟨a, hσ, _⟩ := st.dic e
  refine ⟨_, hσ, (oc_bind (rel := rSh X.K) (f := fun ρ => ev Φ C ρ false k) st o).imp fun v H1 ⟨F1, y, e1, st1, r1, o1⟩ => ?_⟩
  obtain ⟨a', hσ', da⟩ := st1.dic e
  rw [hσ] at hσ'
  cases hσ'
  cases q : getT t y with
  | exc c => exact absurd q getT_noexc
  | stk => rw [q] at o1; exact o1.elim
  | ok od =>
    rw [q] at o1
    cases od with
    | none => exact o1.elim
    | some d =>
      obtain ⟨ov, g, w⟩ := da.get r1 q
      rcases w with ⟨w, _⟩ | ⟨d', x, w, rfl, rx⟩
      · cases w
      · cases w
        exact ⟨a, x, rfl, g, o1 _ F1 H1 Ext.refl rx⟩
theorem ok_dgt {i : Nat} {k d : Ex} (ok : OkE T N n Φ C ca k) (od : OkE T N n Φ C ca d) : OkE T N n Φ C ca (.dgt i k d) := by
  intro x sc fn X W G h B
  cases x <;> try (cases h; done)
  rename_i f xs kw cp
  cases f <;> try (cases h; done)
  rename_i u m ap
  rcases xs with _ | ⟨y, _ | ⟨z, _ | ⟨w, xs⟩⟩⟩ <;> try (cases h; done)
  cases kw <;> try (cases h; done)
  simp only [chkE, Bool.and_eq_true, decide_eq_true_eq] at h
  obtain ⟨⟨⟨⟨⟨⟨h1, h2⟩, h3⟩, h4⟩, h5⟩, h6⟩, h7⟩ := h
  subst h1
  obtain ⟨hp, nm, np, rfl⟩ := pe_name G h3
  have s1 : starEach [y, z] X.env = [(false, eval y X.env), (false, eval z X.env)] := by rw [star_cons h4, star_cons h5]; rfl
  refine both_def (pe_dget2 (by have := units_of G; omega) hp (ok.sh G h6 B) (od.sh G h7 B) ⟨rfl, by rw [s1]; rfl, h2, by rw [s1]; rfl⟩) rfl fun σ H Q ⟨ρ, F, st, o⟩ => ?_
  obtain ⟨t, e, o⟩ := oc_dic o
  obtain ⟨a, hσ, da0⟩ := st.dic e
  refine ⟨_, hσ, a, rfl, da0.isD, (oc_bind (rel := rSh X.K) (f := fun ρ => ev Φ C ρ false k) st o).imp fun v H1 ⟨F1, y, e1, st1, r1, o1⟩ => ?_⟩
  refine (oc_bind (rel := rSh X.K) (f := fun ρ => ev Φ C ρ false d) st1 o1).imp fun v2 H2 ⟨F2, z, e2, st2, r2, o2⟩ => ?_
  obtain ⟨a', hσ', da⟩ := st2.dic e
  rw [hσ] at hσ'
  cases hσ'
  cases q : getT t y with
  | exc c => exact absurd q getT_noexc
  | stk => rw [q] at o2; exact o2.elim
  | ok od =>
    rw [q] at o2
    obtain ⟨ov, g, w⟩ := da.get (r1.ext e2) q
    refine ⟨ov, g, ?_⟩
    rcases w with ⟨rfl, rfl⟩ | ⟨d', x, rfl, rfl, rx⟩
    · exact o2 _ F2 H2 Ext.refl r2
    · exact o2 _ F2 H2 Ext.refl rx
theorem blt_sorted : Str.ofString "sorted" ∈ bltNames := by decide +kernel
theorem ne_sorted : Str.ofString "sorted" ≠ "__name__" ∧ (Str.ofString "sorted" == ("__debug__" : Str)) = false := by decide +kernel
theorem boot_srt : bootBuiltins (Str.ofString "sorted") = some (.builtin "sorted") := by decide +kernel
/-- sorted of an own dict -/
theorem cr_sortDic (hc : X.calm = true) : CallR X (.builtin "sorted") (fun xs H Q => ∃ F a t, xs = [V.ref a] ∧ Dom F H ∧ DicAt X.K F H a t ∧ Oc (rV X.K true) noW F H Q (srtD t)) := by
  intro pins s σ H xs us Q I r ⟨F, a, t, e, dm, da, h⟩
  subst e
  cases da with
  | @k l xs hd ra =>
    simp only [srtD] at h
    cases q : intKs l with
    | none => rw [q] at h; exact h.elim
    | some ns =>
      rw [q] at h
      dsimp only at h
      split at h
      · rename_i h64
        refine call_sortedDI hc pins s σ H _ us Q I r ⟨a, xs, ns, rfl, .inl hd, by rw [ra.keys]; exact intKs_map q, h64, fun ys p hp hs hn => ?_⟩
        rw [← srtI_uniq hs hp] at h
        exact oc_new h dm (reps_int ys) p hn
      · exact h.elim
  | @t l xs hd ra =>
    simp only [srtD] at h
    cases q : tupKs l with
    | none => rw [q] at h; exact h.elim
    | some ns =>
      rw [q] at h
      dsimp only at h
      split at h
      · rename_i hs
        exact cr_srtD hc pins s σ H _ us Q I r ⟨a, xs, ns, rfl, hd, by rw [ra.keys]; exact tupKs_map q, sameLen_ne hs, fun zs ys p hz ho hn => oc_new h dm (ord_reps (reps_tups hz) ho) p hn⟩
      · exact h.elim
theorem ok_dso {i : Nat} : OkE T N n Φ C ca (.dso i) := by
  intro x sc fn X W G h B
  cases x <;> try (cases h; done)
  rename_i f xs kw p
  cases f <;> try (cases h; done)
  rcases xs with _ | ⟨x, _ | ⟨y, xs⟩⟩ <;> try (cases h; done)
  cases kw <;> try (cases h; done)
  rename_i g gp
  simp only [chkE, Bool.and_eq_true, decide_eq_true_eq] at h
  obtain ⟨⟨h1, h2⟩, h3⟩ := h
  subst h1
  obtain ⟨hp, nm, np, rfl⟩ := pe_name G h3
  refine both_def (pe_callB (cr_sortDic G.calm) (G.gl h2) (G.blt _ blt_sorted) boot_srt (pa_cons' rfl hp pa_nil) ne_sorted.1 ne_sorted.2 (star_cons rfl [] X.env) rfl) rfl fun σ H Q ⟨ρ, F, st, o⟩ => ?_
  obtain ⟨t, e, o⟩ := oc_dic o
  obtain ⟨a, hσ, da⟩ := st.dic e
  refine ⟨_, hσ, F, a, t, rfl, st.dom, da, ?_⟩
  cases q : srtD t with
  | ok d => rw [q] at o; exact o
  | exc c => exact absurd q srtD_noexc
  | stk => rw [q] at o; exact o.elim
/-! ### in -/
theorem pys_map : ∀ l : List D, pys l = l.map D.py
  | [] => rfl
  | d :: l => by simp only [pys, List.map_cons, pys_map l]
theorem any_pys (l : List D) (a : D) : ((pys l).any fun z => PyData.eqv z a.py) = l.any fun y => dEq y a := by
  rw [pys_map, List.any_map]; rfl
theorem in_room {A : Around} (hu : A.units + 64 < cLine) {a : D} (ds : List PyData) (h : eqOk 12 a = true) : A.units + 1 + min (PyData.depthAll ds) a.py.depth < cLine := by
  have := depth_ok 12 a h
  have := Nat.min_le_right (PyData.depthAll ds) a.py.depth
  omega
theorem canLay_lst {l : List D} (h : eqOk 12 (.lst l) = true) : PyData.canLayAll0 (pys l) = true := canLay_ok 12 _ h
theorem canLay_tup {l : List D} (h : eqOk 12 (.tup l) = true) : PyData.canLayAll0 (pys l) = true := canLay_ok 12 _ h
def inOp (n : Bool) : CmpOp := if n then .NotIn else .In
theorem op_in {fr : Bool} (hu : X.A.units + 64 < cLine) (n : Bool) : OpR X (compareOp (inOp n)) (rBin X.K fr fun a b => (inV a b).bind fun k => .ok (.bl (k != n))) := by
  intro pins s σ H x y v u Q I rx ry ⟨F, a, b, dm, ra, rb, h⟩
  cases b <;> try exact h.elim
  case lst l =>
    simp only [inV] at h
    split at h
    · rename_i hd
      obtain ⟨h1, h2⟩ := Bool.and_eq_true_iff.mp hd
      obtain ⟨as, w1⟩ := Dp.reads I _ x v (dp_x h1 ra) rx
      obtain ⟨bs, w2⟩ := Dp.reads I _ y u (dp_x h2 rb) ry
      have q := oc_val h (.bl _) (by simp)
      rw [← any_pys] at q
      cases n with
      | false => exact SeqAt.in_list_reads w2 w1 (canLay_lst h2) (canLay_ok 12 _ h1) (in_room hu _ h1) ⟨.bl _, H, I, rfl, by simpa using q⟩
      | true => exact SeqAt.notIn_list_reads w2 w1 (canLay_lst h2) (canLay_ok 12 _ h1) (in_room hu _ h1) ⟨.bl _, H, I, rfl, by simpa using q⟩
    · exact h.elim
  case tup l =>
    simp only [inV] at h
    split at h
    · rename_i hd
      obtain ⟨h1, h2⟩ := Bool.and_eq_true_iff.mp hd
      obtain ⟨as, w1⟩ := Dp.reads I _ x v (dp_x h1 ra) rx
      obtain ⟨bs, w2⟩ := Dp.reads I _ y u (dp_x h2 rb) ry
      have q := oc_val h (.bl _) (by simp)
      rw [← any_pys] at q
      cases n with
      | false => exact SeqAt.in_tuple_reads w2 w1 (canLay_tup h2) (canLay_ok 12 _ h1) (in_room hu _ h1) ⟨.bl _, H, I, rfl, by simpa using q⟩
      | true => exact SeqAt.notIn_tuple_reads w2 w1 (canLay_tup h2) (canLay_ok 12 _ h1) (in_room hu _ h1) ⟨.bl _, H, I, rfl, by simpa using q⟩
    · exact h.elim
theorem inV_noexc {a b : D} {c : Nat} : inV a b ≠ .exc c := by
  intro h
  unfold inV at h
  split at h <;> first | (cases h; done) | (split at h <;> cases h)
theorem ok_inn {n' : Bool} {a b : Ex} (oa : OkE T N n Φ C ca a) (ob : OkE T N n Φ C ca b) : OkE T N n Φ C ca (.inn n' a b) := by
  intro x sc fn X W G h B
  cases x <;> try (cases h; done)
  rename_i l ops cs p
  rcases ops with _ | ⟨q, _ | ⟨q2, ops⟩⟩ <;> try (cases h; done)
  rcases cs with _ | ⟨y, _ | ⟨y2, cs⟩⟩ <;> try (cases h; done)
  simp only [chkE, Bool.and_eq_true] at h
  obtain ⟨⟨h1, h2⟩, h3⟩ := h
  have e : q = inOp n' := by
    cases q <;> cases n' <;> first | rfl | cases h1
  subst e
  have hm : behindInMarks (inOp n') y = false := by cases y <;> first | rfl | (cases b <;> cases h3)
  refine both_of (pe_cmpR (op_in (fr := false) (units_of G) n') (oa.sh G h2 B) (ob.x G h3 B) hm) (pt_cmpR (op_in (fr := false) (units_of G) n') (oa.sh G h2 B) (ob.x G h3 B) hm) fun σ H Q ⟨ρ, F, st, o⟩ => ?_
  refine (oc_bind (rel := rSh X.K) (f := fun ρ => ev Φ C ρ false a) st o).imp fun v1 H1 ⟨F1, d1, e1, st1, r1, o1⟩ => ?_
  refine (oc_bind (rel := rX X.K) (f := fun ρ => ev Φ C ρ true b) st1 o1).imp fun v2 H2 ⟨F2, d2, e2, st2, r2, o2⟩ => ?_
  refine ⟨F2, d1, d2, st2.dom, .inl (r1.ext e2), r2, ?_⟩
  cases q : inV d1 d2 with
  | ok k => rw [q] at o2; dsimp only; rw [q]; exact o2
  | exc c => exact absurd q inV_noexc
  | stk => rw [q] at o2; exact o2.elim
/-! ### sorted(set(..)) -/
theorem once_mem (x : List Int) : ∀ l : List (List Int), x ∈ once l ↔ x ∈ l
  | [] => Iff.rfl
  | y :: r => by
    unfold once
    split
    · rename_i h
      have h : y ∈ once r := by simpa using h
      rw [once_mem x r, List.mem_cons]
      constructor
      · exact .inr
      · rintro (rfl | h2)
        · exact (once_mem _ r).mp h
        · exact h2
    · rw [List.mem_cons, List.mem_cons, once_mem x r]
theorem once_nodup : ∀ l : List (List Int), (once l).Nodup
  | [] => List.nodup_nil
  | y :: r => by
    unfold once
    split
    · exact once_nodup r
    · rename_i h
      exact List.nodup_cons.mpr ⟨fun z => h (by simpa using z), once_nodup r⟩
theorem code_lexI {b : Int} : ∀ {x y : List Int}, x.length = y.length → TS.Bd b x → TS.Bd b y → lexI y x = true → TS.code b y < TS.code b x
  | [], [], _, _, _, h => by cases h
  | [], _ :: _, e, _, _, _ => by cases e
  | _ :: _, [], e, _, _, _ => by cases e
  | p :: x, q :: y, e, h1, h2, h => by
    have e' : x.length = y.length := by simpa using e
    simp only [lexI] at h
    by_cases z : q = p
    · subst z
      rw [if_pos rfl] at h
      exact (TS.code_same e'.symm).mpr (code_lexI e' h1.tail h2.tail h)
    · rw [if_neg z] at h
      exact TS.code_lt e'.symm h2.tail h1.tail (of_decide_eq_true h)
theorem bd_of (ns : List (List Int)) (h : ∀ n ∈ ns, ∀ i ∈ n, 0 ≤ i) : ∃ b : Int, ∀ n ∈ ns, TS.Bd b n := by
  have one : ∀ n : List Int, ∃ b : Int, ∀ i ∈ n, i < b := fun n => by
    induction n with
    | nil => exact ⟨0, fun i hi => by cases hi⟩
    | cons a n ih =>
      obtain ⟨b, hb⟩ := ih
      refine ⟨max b (a + 1), fun i hi => ?_⟩
      rcases List.mem_cons.mp hi with rfl | hi
      · omega
      · have := hb i hi; omega
  have all : ∃ b : Int, ∀ n ∈ ns, ∀ i ∈ n, i < b := by
    clear h
    induction ns with
    | nil => exact ⟨0, fun i hi => by cases hi⟩
    | cons a ns ih =>
      obtain ⟨b, hb⟩ := ih
      obtain ⟨c, hc⟩ := one a
      refine ⟨max b c, fun n hn i hi => ?_⟩
      rcases List.mem_cons.mp hn with rfl | hn
      · have := hc i hi; omega
      · have := hb n hn i hi; omega
  obtain ⟨b, hb⟩ := all
  exact ⟨b, fun n hn i hi => ⟨h n hn i hi, hb n hn i hi⟩⟩
theorem ks_of {K : PySem.W.Frag} {F : Addr → Prop} {H : Hp} : ∀ {ns : List (List Int)} {xs : List V}, Reps K F H xs (ns.map tupD) → ∃ ks : List (Addr × List Int), xs = ks.map (fun p => V.ref p.1) ∧ ns = ks.map (·.2) ∧ ∀ p ∈ ks, Rep K F H (.ref p.1) (tupD p.2)
  | [], _, .nil => ⟨[], rfl, rfl, fun p hp => by cases hp⟩
  | n :: ns, _, .cons r t => by
    obtain ⟨ks, h1, h2, h3⟩ := ks_of t
    cases r with
    | @tup a _ _ q1 q2 q3 =>
      refine ⟨(a, n) :: ks, by rw [h1]; rfl, by rw [List.map_cons, ← h2], fun p hp => ?_⟩
      rcases List.mem_cons.mp hp with rfl | hp
      · exact .tup q1 q2 q3
      · exact h3 p hp
theorem ints_back : ∀ n : List Int, intsOf (n.map D.int) = some n
  | [] => rfl
  | a :: n => by simp only [List.map_cons, intsOf, ints_back n]; rfl
theorem sq_of {K : PySem.W.Frag} {F : Addr → Prop} {H : Hp} {a : Addr} {n : List Int} (r : Rep K F H (.ref a) (tupD n)) : SqT K H a (n.map V.int) := by
  cases r with
  | tup h1 _ h3 =>
    rw [(ints_reps h3 (ints_back n)).1] at h1
    exact h1
theorem reps_of {K : PySem.W.Frag} {F : Addr → Prop} {H : Hp} : ∀ {ks : List (Addr × List Int)}, (∀ p ∈ ks, Rep K F H (.ref p.1) (tupD p.2)) → Reps K F H (ks.map fun p => V.ref p.1) ((ks.map (·.2)).map tupD)
  | [], _ => .nil
  | p :: ks, h => .cons (h p List.mem_cons_self) (reps_of fun q hq => h q (List.mem_cons_of_mem _ hq))
theorem set_fin {b : Int} {d : Nat} {ks L L' : List (Addr × List Int)} (hL : ∀ p ∈ L, p ∈ ks) (hk : ∀ p ∈ ks, p.2 ∈ L.map (·.2)) (pm : L'.Perm L) (nd : (L'.map (·.2)).Nodup) (hd : ∀ p ∈ ks, p.2.length = d ∧ TS.Bd b p.2)
    (pw : L'.Pairwise (fun q r => TS.code b q.2 ≤ TS.code b r.2)) : L'.map (·.2) = srtL (once (ks.map (·.2))) := by
  refine lexS_srt (List.pairwise_map.mpr (pw.imp_of_mem fun {q r} hq hr h => ?_)) ((List.perm_ext_iff_of_nodup nd (once_nodup _)).mpr fun x => ?_)
  · obtain ⟨l1, b1⟩ := hd _ (hL _ (pm.mem_iff.mp hq))
    obtain ⟨l2, b2⟩ := hd _ (hL _ (pm.mem_iff.mp hr))
    cases e : lexI r.2 q.2 with
    | false => rfl
    | true =>
      have := code_lexI (l1.trans l2.symm) b1 b2 e
      omega
  · rw [once_mem]
    constructor
    · intro h
      obtain ⟨p, hp, rfl⟩ := List.mem_map.mp h
      exact List.mem_map.mpr ⟨p, hL p (pm.mem_iff.mp hp), rfl⟩
    · intro h
      obtain ⟨p, hp, rfl⟩ := List.mem_map.mp h
      obtain ⟨q, hq, e⟩ := List.mem_map.mp (hk p hp)
      exact List.mem_map.mpr ⟨q, pm.mem_iff.mpr hq, e⟩
theorem blt_set : Str.ofString "set" ∈ bltNames := by decide +kernel
theorem ne_set : Str.ofString "set" ≠ "__name__" ∧ (Str.ofString "set" == ("__debug__" : Str)) = false := by decide +kernel
theorem boot_st : bootBuiltins (Str.ofString "set") = some (.type "set") := by decide +kernel
theorem setT1_noexc {l : List D} {c : Nat} : setT1 l ≠ .exc c := by
  intro h
  unfold setT1 at h
  split at h <;> first | (cases h; done) | (split at h <;> cases h)
theorem ok_sset {a : Ex} (oa : OkE T N n Φ C ca a) : OkE T N n Φ C ca (.sset a) := by
  intro x sc fn X W G h B
  cases x <;> try (cases h; done)
  rename_i f xs kw p
  cases f <;> try (cases h; done)
  rcases xs with _ | ⟨x, _ | ⟨y, xs⟩⟩ <;> try (cases h; done)
  case cons.cons =>
    cases x <;> try (cases h; done)
    rename_i f3 xs3 kw3 p3
    cases f3 <;> try (cases h; done)
    rcases xs3 with _ | ⟨x3, _ | ⟨y3, xs3⟩⟩ <;> try (cases h; done)
    cases kw3 <;> (try (cases h; done))
  cases x <;> try (cases h; done)
  rename_i g gp f2 xs2 kw2 p2
  cases f2 <;> try (cases h; done)
  rcases xs2 with _ | ⟨x, _ | ⟨y, xs2⟩⟩ <;> try (cases h; done)
  cases kw2 <;> try (cases h; done)
  cases kw <;> try (cases h; done)
  rename_i g2 gp2
  simp only [chkE, Bool.and_eq_true, decide_eq_true_eq] at h
  obtain ⟨⟨⟨⟨⟨h1, h2⟩, h3⟩, h4⟩, h5⟩, h6⟩ := h
  subst h1 h2
  have ps := pe_callTy (X := X) (p := gp2) (pos := p2) (cr_setOfT G.calm (units_of G)) (G.gl h4) (G.blt _ blt_set) boot_st (pa_cons' h5 (oa.x G h6 B) pa_nil) ne_set.1 ne_set.2 (star_cons h5 [] X.env) rfl
  refine both_def (pe_callB (cr_sortedT G.calm) (G.gl h3) (G.blt _ blt_sorted) boot_srt (pa_cons' rfl ps pa_nil) ne_sorted.1 ne_sorted.2 (star_cons rfl [] X.env) rfl) rfl fun σ H Q ⟨ρ, F, st, o⟩ => ?_
  refine (oc_bind (rel := rX X.K) (f := fun ρ => ev Φ C ρ true a) st o).imp fun v H1 ⟨F1, d, e1, st1, r1, o1⟩ => ?_
  cases d <;> try exact o1.elim
  rename_i l
  obtain ⟨q, xs, rfl, hq, rr⟩ := r1.lst
  dsimp only at o1
  simp only [setT1] at o1
  cases e : tupsOf l with
  | none => rw [e] at o1; exact o1.elim
  | some ns =>
  rw [e] at o1
  dsimp only at o1
  split at o1
  · rename_i hb
    simp only [Bool.and_eq_true, decide_eq_true_eq, List.all_eq_true] at hb
    obtain ⟨⟨b1, b2⟩, b3⟩ := hb
    obtain ⟨el, _⟩ := tups_reps rr e
    subst el
    obtain ⟨ks, k1, k2, k3⟩ := ks_of rr
    obtain ⟨b, hbd⟩ := bd_of ns b2
    obtain ⟨dd, d1, d2⟩ : ∃ dd, 1 ≤ dd ∧ ∀ n ∈ ns, n.length = dd := by
      cases ns with
      | nil => exact ⟨1, Nat.le_refl _, fun n hn => by cases hn⟩
      | cons n ns =>
        simp only [sameLen, Bool.and_eq_true, decide_eq_true_eq, List.all_eq_true, beq_iff_eq] at b1
        refine ⟨n.length, b1.1, fun m hm => ?_⟩
        rcases List.mem_cons.mp hm with rfl | hm
        · rfl
        · exact b1.2 m hm
    have hk : ∀ p ∈ ks, p.2.length = dd ∧ TS.Bd b p.2 := fun p hp => by
      have : p.2 ∈ ns := by rw [k2]; exact List.mem_map.mpr ⟨p, hp, rfl⟩
      exact ⟨d2 _ this, hbd _ this⟩
    refine ⟨q, ks, rfl, by rw [← k1]; exact hq, fun p hp => sq_of (k3 p hp), by rw [k2, List.length_map] at b3; exact b3, fun a L ha hL hK => ?_⟩
    have ex : Ext F1 F1 H1 (upd H1 a (SetTO X.prog X.w a L)) := Ext.upd ha
    refine ⟨a, L, dd, b, rfl, upd_same, fun p hp => sq_of ((k3 p (hL p hp)).ext ex), d1, fun p hp => hk p (hL p hp), fun L' p pm nd _ pw hp => ?_⟩
    have fin := set_fin hL hK pm nd hk pw
    rw [k2, ← fin] at o1
    have o2 : Oc (rV X.K true) noW F1 H1 Q (.ok (.lst ((L'.map (·.2)).map tupD))) := o1
    exact oc_new (Oc.ext ex o2) (st1.dom.ext ex) (reps_of fun p hp => (k3 p (hL p (pm.mem_iff.mp hp))).ext ex) p hp
  · exact o1.elim
end
end Rv
/-! max(xs, default=d). -/
namespace Rv
open PySem PySem.Spec PyProof.Rows L2
section
variable {prog : Program} {w : World} {A : Around} {R : Result → Shared → Prop} {it : Addr} {fs ws : List Addr} {m : Nat} {Pv : Nat → Value → Prop} {Sv : Nat → Heap → Prop} {dv : Value}
theorem loop_name : (toString "max" ++ toString ".loop" : String) = "max.loop" := by decide
/-- the turns behind the first -/
theorem maxd_turn (wk : Walks prog w A.in1 it fs ws m Pv Sv) (gt : Nat → Nat → Bool) (cmp : CmpOf prog w A.in1 .Gt Pv gt) (b : Addr) (hb : b ∉ fs) (left : Nat) :
    ∀ (i : Nat) (s : Shared) (top : Value) (ep : Nat), i + 1 + left = m → Sv (i + 1) s.heap → Pv (argBest gt i) top → s.heap.get? b = some (seqObj "list" #[top, top] ep) →
    (∀ v h' tk, Pv (argBest gt (m - 1)) v → (∀ a o, a ∉ ws → a ≠ b → s.heap.get? a = some o → h'.get? a = some o) → R (.ok (.ret v)) { s with heap := h', toks := tk }) →
    codeAny (model prog w) A (.builtin "max.loop" ⟨[.ref it, .none, .ref b], [("default", dv)]⟩) R s := by
  have hbw : b ∉ ws := fun z => hb (wk.sub _ z)
  induction left with
  | zero =>
    intro i s top ep hi hs ht hbo hR
    refine codeAny_builtin PySem.F.entry_max_loop ?_
    rw [Around.under_plainId PySem.F.plain_max_loop _]
    show wpAny _ A.in1 (seqItems? (.ref b) >>= _) _ _ s
    refine wpAny_bind (wpAny_seqItems hbo rfl ?_)
    show wpAny _ A.in1 (tryCatch (pyNext (.ref it)) _ >>= _) _ _ s
    have hs' : Sv m s.heap := by rw [← hi]; exact hs
    refine wpAny_bind (wpAny_tryCatch (wk.done s _ _ hs' fun h1 tk kp => ?_))
    have hbo1 := kp b _ hbw hbo
    show wpAny _ A.in1 (updateSeq b (fun _ => #[]) >>= _) _ _ _
    refine wpAny_bind (wpAny_updateSeq hbo1 rfl (wpAny_bind (wpAny_letGo (wpAny_pure ?_))))
    refine hR top _ tk (by rw [← hi]; exact ht) fun a o ha hab e => ?_
    rw [Heap.get?_update_other _ _ (Ne.symm hab)]
    exact kp a o ha e
  | succ left ih =>
    intro i s top ep hi hs ht hbo hR
    refine codeAny_builtin PySem.F.entry_max_loop ?_
    rw [Around.under_plainId PySem.F.plain_max_loop _]
    show wpAny _ A.in1 (seqItems? (.ref b) >>= _) _ _ s
    refine wpAny_bind (wpAny_seqItems hbo rfl ?_)
    show wpAny _ A.in1 (tryCatch (pyNext (.ref it)) _ >>= _) _ _ s
    refine wpAny_bind (wpAny_tryCatch (wk.item (i + 1) s _ _ (by omega) hs fun v h1 tk hv hs1 kp => ?_))
    have hbo1 := kp b _ hbw hbo
    show wpAny _ A.in1 (tryCatch (holding [v, v] (richCompare .Gt v top >>= _)) _ >>= _) _ _ _
    refine wpAny_bind (wpAny_tryCatch (wpAny_holding (wpAny_bind (cmp (i + 1) (argBest gt i) v top _ _ _ hv ht ?_))))
    refine wpAny_bind (wpAny_holding (wpAny_truthy_bool ?_))
    refine wpAny_bind (wpAny_letGo (wpAny_pure ?_))
    cases q : gt (i + 1) (argBest gt i) with
    | true =>
      have hbest : argBest gt (i + 1) = i + 1 := by simp only [argBest, q, if_true]
      simp only [if_true]
      refine wpAny_bind (wpAny_updateSeq hbo1 rfl (wpAny_bind (wpAny_letGo ?_)))
      rw [loop_name]
      have hs2 := wk.frame _ _ (h1.update b (Obj.mapSeq fun _ => #[v, v])) hs1 fun a ha o e => by
        rw [Heap.get?_update_other _ _ (show b ≠ a from fun z => hb (z ▸ ha))]; exact e
      refine wpAny_pure ⟨plainId_quiet PySem.F.plain_max_loop _, ih (i + 1) _ v _ (by omega) hs2 (by rw [hbest]; exact hv) (Heap.get?_update_self _ hbo1 rfl) fun v2 h2 tk2 hv2 kp2 => ?_⟩
      refine hR v2 h2 tk2 hv2 fun a o ha hab e => kp2 a o ha hab ?_
      rw [Heap.get?_update_other _ _ (Ne.symm hab)]
      exact kp a o ha e
    | false =>
      have hbest : argBest gt (i + 1) = argBest gt i := by simp only [argBest, q, Bool.false_eq_true, if_false]
      simp only [Bool.false_eq_true, if_false]
      refine wpAny_bind (wpAny_letGo ?_)
      rw [loop_name]
      refine wpAny_pure ⟨plainId_quiet PySem.F.plain_max_loop _, ih (i + 1) _ top ep (by omega) hs1 (by rw [hbest]; exact ht) hbo1 fun v2 h2 tk2 hv2 kp2 => ?_⟩
      exact hR v2 h2 tk2 hv2 fun a o ha hab e => kp2 a o ha hab (kp a o ha e)
/-- the first turn -/
theorem maxd_first (wk : Walks prog w A.in1 it fs ws m Pv Sv) (gt : Nat → Nat → Bool) (cmp : CmpOf prog w A.in1 .Gt Pv gt) (b : Addr) (hb : b ∉ fs) {s : Shared} {ep : Nat} (hs : Sv 0 s.heap) (hbo : s.heap.get? b = some (seqObj "list" #[] ep))
    (h0 : m = 0 → ∀ h' tk, (∀ a o, a ∉ ws → s.heap.get? a = some o → h'.get? a = some o) → R (.ok (.ret dv)) { s with heap := h', toks := tk })
    (hR : 0 < m → ∀ v h' tk, Pv (argBest gt (m - 1)) v → (∀ a o, a ∉ ws → a ≠ b → s.heap.get? a = some o → h'.get? a = some o) → R (.ok (.ret v)) { s with heap := h', toks := tk }) :
    codeAny (model prog w) A (.builtin "max.loop" ⟨[.ref it, .none, .ref b], [("default", dv)]⟩) R s := by
  have hbw : b ∉ ws := fun z => hb (wk.sub _ z)
  refine codeAny_builtin PySem.F.entry_max_loop ?_
  rw [Around.under_plainId PySem.F.plain_max_loop _]
  show wpAny _ A.in1 (seqItems? (.ref b) >>= _) _ _ s
  refine wpAny_bind (wpAny_seqItems hbo rfl ?_)
  show wpAny _ A.in1 (tryCatch (pyNext (.ref it)) _ >>= _) _ _ s
  cases m with
  | zero =>
    refine wpAny_bind (wpAny_tryCatch (wk.done s _ _ hs fun h1 tk kp => ?_))
    refine wpAny_bind (m := rule _) (wpAny_rule ?_)
    exact wpAny_pure (h0 rfl h1 tk kp)
  | succ m =>
    refine wpAny_bind (wpAny_tryCatch (wk.item 0 s _ _ (Nat.succ_pos m) hs fun v h1 tk hv hs1 kp => ?_))
    have hbo1 := kp b _ hbw hbo
    show wpAny _ A.in1 (updateSeq b (fun _ => #[v, v]) >>= _) _ _ _
    refine wpAny_bind (wpAny_updateSeq hbo1 rfl ?_)
    rw [loop_name]
    have hs2 := wk.frame _ _ (h1.update b (Obj.mapSeq fun _ => #[v, v])) hs1 fun a ha o e => by
      rw [Heap.get?_update_other _ _ (show b ≠ a from fun z => hb (z ▸ ha))]; exact e
    refine wpAny_pure ⟨plainId_quiet PySem.F.plain_max_loop _, maxd_turn wk gt cmp b hb m 0 _ v _ (by omega) hs2 hv (Heap.get?_update_self _ hbo1 rfl) fun v2 h2 tk2 hv2 kp2 => ?_⟩
    refine hR (Nat.succ_pos m) v2 h2 tk2 hv2 fun a o ha hab e => kp2 a o ha hab ?_
    rw [Heap.get?_update_other _ _ (Ne.symm hab)]
    exact kp a o ha e
theorem args_maxd (x y : Value) : argsOk "max" ⟨[x], [(Str.ofString "default", y)]⟩ := by unfold argsOk; kernel_rfl
end
section
variable {X : Cx}
theorem cr_maxd (hc : X.calm = true) : CallRK X (.builtin "max") [Str.ofString "default"] (fun vs zs H Q => ∃ (a : Addr) (ns : List Int) (z : V), vs = [V.ref a] ∧ zs = [z] ∧ SqL X.K H a (ns.map V.int) ∧ (ns = [] → Q z H) ∧ (0 < ns.length → ∀ m, m ∈ ns → (∀ y ∈ ns, y ≤ m) → Q (.int m) H)) := by
  intro pins s σ H vs zs us dws Q I r rz h
  obtain ⟨a, ns, z, rfl, rfl, hs, q0, q1⟩ := h
  obtain rfl := Vals.ref1 r
  obtain ⟨dv, rfl, rd⟩ := vals1 rz
  obtain ⟨its, rv, hl, _⟩ := I.list hs
  obtain ⟨xs, e⟩ := rv.ints.allInts.items
  have hn : numsOf (intItems xs).toList = ns := by rw [← e]; exact rv.ints.numsOf
  rw [nums_intItems] at hn
  subst hn
  have hl := hl.isList
  rw [e] at hl
  obtain ⟨o, ho, _⟩ := id hl
  have hlt : a < s.heap.objs.size := Heap.lt_size ho
  have ne : a ≠ s.heap.objs.size := Nat.ne_of_lt hlt
  refine wpAny_call (codeAny_call_builtin PySem.F.plain_max PySem.F.entry_max ?_)
  simp only [checkBuiltinCall, PySem.F.kind_max]
  have sig : ∀ {C : Sem Fin → Sem Fin}, True := fun {C} => trivial
  have ck : ∀ {g : Manifest.Signature}, Manifest.signature? "max" = some g → Bind.checkArgs "max" g ⟨[.ref a], [(Str.ofString "default", dv)]⟩ = pure () := fun {g} hg => by
    have := args_maxd (.ref a) dv
    simpa only [argsOk, hg] using this
  have main : wpAny (model X.prog X.w) X.A.in1 (Builtin.«max» ⟨[.ref a], [(Str.ofString "default", dv)]⟩) (fun fin s' => match fin with
      | .done f => (match (Except.ok f : Result) with | .ok (.ret v) => EP X pins σ Q v s' | .ok _ => False | .error e => X.xe e s')
      | .again c' => c'.quiet = true ∧ codeAny (model X.prog X.w) X.A c' (fun r s' => match r with | .ok (.ret v) => EP X pins σ Q v s' | .ok _ => False | .error e => X.xe e s') s') X.xe s := by
    show wpAny _ X.A.in1 (Builtin.Builtins.bindParams "max" ["key", "default"] 0 ⟨[], [(Str.ofString "default", dv)]⟩ >>= _) _ _ s
    refine wpAny_bind (wpAny_of_eq (show Builtin.Builtins.bindParams "max" ["key", "default"] 0 ⟨[], [(Str.ofString "default", dv)]⟩ = pure [none, some dv] from rfl) ?_)
    refine wpAny_bind (wpAny_pure ?_)
    refine wpAny_bind (wpAny_pyIter_list hl ?_)
    refine wpAny_bind (wpAny_newObj_type ?_)
    rw [loop_name]
    let h1 := s.heap.push { cls := .type "list_iterator", data := .fields #[.ref a, .int 0 0] }
    have sz1 : h1.objs.size = s.heap.objs.size + 1 := Heap.size_push ..
    have old : ∀ b ob, s.heap.get? b = some ob → (h1.push (seqObj "list" #[] 0)).get? b = some ob := fun b ob q => Heap.get?_push_of_some _ (Heap.get?_push_of_some _ q)
    refine wpAny_pure ⟨plainId_quiet PySem.F.plain_max_loop _, maxd_first (it := s.heap.objs.size) (fs := [s.heap.objs.size, a]) (ws := [s.heap.objs.size]) (m := (intItems xs).size) (b := h1.objs.size) (dv := dv)
      (Walks.list (A := X.A.in1) (I.ok.hd hc) _ a ne (intItems xs)) (fun i j => decide (numAt xs i > numAt xs j)) (CmpOf.ints_gt (numAt xs) fun _ _ => intItems_at) ?_ ⟨⟨_, Heap.get?_push_of_some _ (Heap.get?_push_size _ rfl), rfl, rfl⟩, (hl.push _).push _⟩ (Heap.get?_push_size _ rfl) ?_ ?_⟩
    · rw [sz1]
      intro z
      have hlt : (a : Nat) < s.heap.objs.size := hlt
      rcases List.mem_cons.mp z with z | z
      · have z : (s.heap.objs.size + 1 : Nat) = s.heap.objs.size := z
        omega
      · rcases List.mem_cons.mp z with z | z
        · rw [← z] at hlt
          exact absurd hlt (Nat.not_lt.mpr (Nat.le_succ _))
        · cases z
    · intro hm h2 tk kp
      refine ⟨z, H, I.kept (t' := tk) fun b ob q => kp b ob (fun z => ?_) (old b ob q), rd, q0 ?_⟩
      · rcases List.mem_cons.mp z with z | z
        · exact absurd (z ▸ Heap.lt_size q) (Nat.lt_irrefl _)
        · cases z
      · have : xs.size = 0 := by simpa [intItems] using hm
        have : xs = #[] := Array.eq_empty_of_size_eq_zero this
        subst this
        rfl
    · intro hm v h2 tk hv kp
      obtain ⟨t, rfl⟩ := intItems_at hv
      have szx : (intItems xs).size = xs.size := by simp [intItems]
      rw [szx] at hm ⊢
      obtain ⟨g1, g2⟩ := argBest_gt (numAt xs) (xs.size - 1)
      refine ⟨.int _, H, I.kept (t' := tk) fun b ob q => kp b ob (fun z => ?_) (fun z => ?_) (old b ob q), ⟨t, rfl⟩, q1 (by simpa using hm) _ ?_ fun y hy => ?_⟩
      · rcases List.mem_cons.mp z with z | z
        · exact absurd (z ▸ Heap.lt_size q) (Nat.lt_irrefl _)
        · cases z
      · have w := Heap.lt_size q
        rw [z, sz1] at w
        exact absurd w (by show ¬ (s.heap.objs.size + 1 : Nat) < s.heap.objs.size; omega)
      · rw [numAt_eq]; exact PySem.getD_mem (by rw [List.length_map, Array.length_toList]; omega)
      · obtain ⟨j, hj, rfl⟩ := mem_getD hy
        rw [List.length_map, Array.length_toList] at hj
        rw [← numAt_eq]; exact g2 j (by omega)
  cases hg : Manifest.signature? "max" with
  | none => exact wpAny_pure main
  | some g =>
    show wpAny _ X.A.in1 (Bind.checkArgs "max" g ⟨[.ref a], [(Str.ofString "default", dv)]⟩) _ _ s
    rw [ck hg]
    exact wpAny_pure main
end
section
variable {T : Tab} {N : List Str} {n : Nat} {Φ : Nat → List D → R D} {C : Nat → D} {ca : Nat → Addr} {sc : Scope} {fn : Str → Bool} {X : Cx} {W : WX} {B : Bs}
theorem blt_max : Str.ofString "max" ∈ bltNames := by decide +kernel
theorem ne_max : Str.ofString "max" ≠ "__name__" ∧ (Str.ofString "max" == ("__debug__" : Str)) = false := by decide +kernel
theorem boot_mx : bootBuiltins (Str.ofString "max") = some (.builtin "max") := by decide +kernel
theorem ok_maxd {a d : Ex} (oa : OkE T N n Φ C ca a) (od : OkE T N n Φ C ca d) : OkE T N n Φ C ca (.maxd a d) := by
  intro x sc fn X W G h B
  cases x <;> try (cases h; done)
  rename_i f xs kw p
  cases f <;> try (cases h; done)
  rcases xs with _ | ⟨x, _ | ⟨y, xs⟩⟩ <;> try (cases h; done)
  rcases kw with _ | ⟨⟨k, y, kp⟩, _ | ⟨k2, kw⟩⟩ <;> try (cases h; done)
  rename_i g gp
  simp only [chkE, Bool.and_eq_true, decide_eq_true_eq] at h
  obtain ⟨⟨⟨⟨⟨h1, h2⟩, h3⟩, h4⟩, h5⟩, h6⟩ := h
  subst h1 h2
  have hs : starEach [x] X.env = (false, eval x X.env) :: starEach [] X.env := star_cons h4 [] X.env
  refine both_def (pe_callBK (cr_maxd G.calm) (G.gl h3) (G.blt _ blt_max) boot_mx (pa_cons' h4 (oa.x G h5 B) pa_nil) (pk_cons (od.sh G h6 B) pk_nil) ne_max.1 ne_max.2 (by rw [hs]; rfl) (by rw [hs]; rfl) rfl rfl rfl) rfl fun σ H Q ⟨ρ, F, st, o⟩ => ?_
  refine (oc_bind (rel := rX X.K) (f := fun ρ => ev Φ C ρ true a) st o).imp fun v H1 ⟨F1, e, e1, st1, r1, o1⟩ => ?_
  refine (oc_bind (rel := rSh X.K) (f := fun ρ => ev Φ C ρ false d) st1 o1).imp fun v2 H2 ⟨F2, z, e2, st2, r2, o2⟩ => ?_
  cases e <;> try exact o2.elim
  case lst l _ =>
    obtain ⟨q, ys, rfl, hq, rr⟩ := (r1.ext e2).lst
    cases l with
    | nil =>
      cases rr
      exact ⟨q, [], v2, rfl, rfl, hq, fun _ => o2 _ F2 H2 Ext.refl r2, fun z => absurd z (by decide)⟩
    | cons i l =>
      simp only [maxL] at o2
      split at o2
      · rename_i j ns en
        have e1 := ints_rep rr en
        subst e1
        refine ⟨q, j :: ns, v2, rfl, rfl, hq, (fun z => by cases z), fun _ m h1 h2 => ?_⟩
        rw [mostI_eq h1 h2] at o2
        exact o2 _ F2 H2 Ext.refl (.int m)
      · exact o2.elim
end
end Rv
/-! Sources, comprehensions, all expressions. -/
namespace Rv
open PySem PySem.Spec PyProof.Rows L2
theorem pres_mut {F : Addr → Prop} {H : Hp} {p : Addr} {xs : List V} {o : HO} (nf : ¬ F p) (h : H p = some (.lst xs)) : Pres F H (upd H p o) where
  lst := fun a ys f e => by rw [upd_ne (fun z => by rw [z] at f; exact nf f)]; exact e
  frz := fun a ob u e => by rw [upd_ne (fun z => by rw [z, h] at e; cases e)]; exact e
  tup := fun a ys e => by rw [upd_ne (fun z => by rw [z, h] at e; cases e)]; exact e
theorem wipeE_get {ρ : Env} {i : Nat} {s : Sl} : ∀ {ws : List Nat}, (wipeE ρ ws)[i]? = some s → s = .un ∨ (i ∉ ws ∧ ρ[i]? = some s)
  | [], h => .inr ⟨by simp, h⟩
  | w :: ws, h => by
    rcases get_set (show ((wipeE ρ ws).set w .un)[i]? = some s from h) with ⟨_, e⟩ | ⟨h1, h2⟩
    · exact .inl e
    · rcases wipeE_get h2 with e | ⟨h3, h4⟩
      · exact .inl e
      · exact .inr ⟨by simp [h1, h3], h4⟩
theorem wipeE_len (ρ : Env) : ∀ ws : List Nat, (wipeE ρ ws).length = ρ.length
  | [] => rfl
  | w :: ws => by unfold wipeE; rw [List.length_set, wipeE_len ρ ws]
theorem wipe_at {σ : L2.St} {i : Nat} : ∀ {ws : List Nat}, i ∉ ws → (wipe σ ws)[i]? = σ[i]?
  | [], _ => rfl
  | w :: ws, h => by
    simp only [List.mem_cons, not_or] at h
    show ((wipe σ ws).set w none)[i]? = _
    rw [List.getElem?_set_ne (Ne.symm h.1), wipe_at h.2]
theorem wipe_in {σ : L2.St} {i : Nat} : ∀ {ws : List Nat}, i ∈ ws → i < σ.length → (wipe σ ws)[i]? = some none
  | w :: ws, h, hl => by
    show ((wipe σ ws).set w none)[i]? = _
    by_cases e : i = w
    · subst e
      rw [List.getElem?_set_self (by rw [L2.wipe_length]; exact hl)]
    · rw [List.getElem?_set_ne (Ne.symm e)]
      exact wipe_in ((List.mem_cons.mp h).resolve_left e) hl
theorem wipe_eq {σ τ : L2.St} {ws ss : List Nat} (hl : τ.length = (wipe σ ws).length) (hs : ∀ i ∈ ss, i ∈ ws) (h : ∀ i, i ∉ ss → τ[i]? = (wipe σ ws)[i]?) : wipe τ ws = wipe σ ws := by
  apply List.ext_getElem?
  intro i
  rw [L2.wipe_length] at hl
  by_cases hi : i ∈ ws
  · by_cases hb : i < σ.length
    · rw [wipe_in hi hb, wipe_in hi (by rw [hl]; exact hb)]
    · rw [List.getElem?_eq_none (by rw [L2.wipe_length]; omega), List.getElem?_eq_none (by rw [L2.wipe_length]; omega)]
  · rw [wipe_at hi, h i fun z => hi (hs i z)]
theorem StOk.wipe {K : PySem.W.Frag} {B : Bs} {F : Addr → Prop} {H : Hp} {σ : L2.St} {ρ : Env} (st : StOk K B σ ρ F H) (ws : List Nat) : StOk K { B with L := fun _ => none } (L2.wipe σ ws) (wipeE ρ ws) F H := by
  refine ⟨by rw [L2.wipe_length, wipeE_len]; exact st.len, st.ext, st.dom, st.dom0, fun i s e => ?_, fun i j di dj e1 e2 hij => ?_, fun _ _ z => by cases z⟩
  · rcases wipeE_get e with rfl | ⟨h1, h2⟩
    · trivial
    · rw [wipe_at h1]; exact st.sl i s h2
  · rcases wipeE_get e1 with h | ⟨h1, h2⟩
    · cases h
    · rcases wipeE_get e2 with h | ⟨h3, h4⟩
      · cases h
      · rw [wipe_at h1, wipe_at h3]; exact st.dis i j di dj h2 h4 hij
theorem nox_ok {α : Type} {r : R α} {a : α} (h : r.nox = .ok a) : r = .ok a := by cases r <;> cases h; rfl
theorem nox_noexc {α : Type} {r : R α} {c : Nat} : r.nox ≠ .exc c := by cases r <;> intro h <;> cases h
mutual
theorem setT_noexc {c : Nat} : ∀ {t : Tg} {d : D} {ρ : Env}, setT t d ρ ≠ .exc c
  | .var i, d, ρ, h => stE_noexc h
  | .tup ts, d, ρ, h => by
    cases d <;> first | (cases h; done) | exact setTs_noexc h
theorem setTs_noexc {c : Nat} : ∀ {t : Tgs} {d : List D} {ρ : Env}, setTs t d ρ ≠ .exc c
  | .nil, [], ρ, h => by cases h
  | .nil, _ :: _, ρ, h => by cases h
  | .cons t ts, [], ρ, h => by cases h
  | .cons t ts, d :: ds, ρ, h => by
    simp only [setTs] at h
    cases e : setT t d ρ with
    | ok ρ1 => rw [e] at h; exact setTs_noexc (show setTs ts ds ρ1 = .exc c from h)
    | exc k => exact setT_noexc e
    | stk => rw [e] at h; cases h
end
theorem compL_noexc {st : D → R Env} {c : Env → R Bool} {f : Env → R D} (h1 : ∀ x k, st x ≠ .exc k) (h2 : ∀ x k, c x ≠ .exc k) (h3 : ∀ x k, f x ≠ .exc k) {k : Nat} : ∀ {l : List D}, compL st c f l ≠ .exc k
  | [], h => by cases h
  | x :: r, h => by
    simp only [compL] at h
    cases e : st x with
    | exc j => exact h1 _ _ e
    | stk => rw [e] at h; cases h
    | ok ρ =>
      rw [e] at h
      simp only [R.bind_ok] at h
      cases e2 : c ρ with
      | exc j => exact h2 _ _ e2
      | stk => rw [e2] at h; cases h
      | ok b =>
        rw [e2] at h
        simp only [R.bind_ok] at h
        cases b with
        | false => exact compL_noexc h1 h2 h3 (l := r) (by simpa using h)
        | true =>
          simp only [if_true] at h
          cases e3 : f ρ with
          | exc j => exact h3 _ _ e3
          | stk => rw [e3] at h; cases h
          | ok y =>
            rw [e3] at h
            simp only [R.bind_ok] at h
            cases e4 : compL st c f r with
            | exc j => exact compL_noexc h1 h2 h3 e4
            | stk => rw [e4] at h; cases h
            | ok ys => rw [e4] at h; cases h
theorem bind_ok {α β : Type} {r : R α} {f : α → R β} {b : β} (h : r.bind f = .ok b) : ∃ a, r = .ok a ∧ f a = .ok b := by
  cases r with
  | ok a => exact ⟨a, rfl, h⟩
  | exc c => cases h
  | stk => cases h
section
variable {T : Tab} {N : List Str} {n : Nat} {Φ : Nat → List D → R D} {C : Nat → D} {ca : Nat → Addr} {sc : Scope} {fn : Str → Bool} {X : Cx} {W : WX} {B : Bs}
/-- a list or a tuple is walked -/
theorem pi_seq {tg l : Expr} {tl : TE} (hl : PE X l tl) : PI X tg l (fun σ H R' => tl σ H fun x H1 => (∃ a xs, x = .ref a ∧ SqL X.K H1 a xs ∧ R' (Itl X.K a) H1) ∨ ∃ a xs, x = .ref a ∧ SqT X.K H1 a xs ∧ R' (Itt X.K a) H1) := by
  refine ⟨fun pins s σ H R' I h => thn (hl.run pins s σ H _ I h) fun v s1 ⟨x, H1, I1, r1, q1⟩ => ?_⟩
  have fp : ∀ {H2 : Hp} {b : Addr}, b ∈ [s1.heap.objs.size] → H2 = H1 → FpOk X pins H2 b := fun {H2 b} hb e => by
    rw [List.mem_singleton.mp hb, e]
    exact I1.fpOk (Nat.le_refl _) I1.fresh
  rcases q1 with ⟨a, xs, rfl, hq, q⟩ | ⟨a, xs, rfl, hq, q⟩ <;> cases r1
  · obtain ⟨its, rv, p, _⟩ := I1.list hq
    exact wpAny_pyIter_list p.isList ⟨s1.heap.objs.size, [s1.heap.objs.size], _, _, H1, rfl, I1.kept (t' := s1.toks) (fun b o e => Heap.get?_push_of_some _ e), turn_list a _, ⟨_, Heap.get?_push_size _ rfl, rfl, rfl⟩, fun b hb => fp hb rfl, q⟩
  · obtain ⟨its, rv, p, _⟩ := I1.tuple hq
    exact wpAny_pyIter_tuple (show s1.heap.IsTuple a its.toArray from p) ⟨s1.heap.objs.size, [s1.heap.objs.size], _, _, H1, rfl, I1.kept (t' := s1.toks) (fun b o e => Heap.get?_push_of_some _ e), turn_tuple a _, ⟨_, Heap.get?_push_size _ rfl, rfl, rfl⟩, fun b hb => fp hb rfl, q⟩
variable (T N n Φ C ca) in
def OkI (s : Src) : Prop := ∀ (tg x : Expr) (sc : Scope) (fn : Str → Bool) (X : Cx) (W : WX), GX T N n Φ C ca sc fn X W → chkI T N sc s tg x = true → ∀ B b, PI X tg x (tI X.K B (wn ca W) b fun ρ => evi Φ C ρ b s) ∧ ∀ env v, foldedSetIterable x env v = pure v
/-- what is looked into: the own lists that must stay -/
theorem rx_src {K : PySem.W.Frag} {F : Addr → Prop} {H : Hp} {v : V} {d : D} (b : Bool) (h : if b = true then RepX K F H v d else Rep K F H v d) : ∃ S : Addr → Prop, (b = false → ∀ a, ¬ S a) ∧ ∀ ds, d = .lst ds → ∃ a xs, v = .ref a ∧ (LsAt K F H a xs ∨ (S a ∧ H a = some (.lst xs))) ∧ Reps K F H xs ds := by
  have fr : Rep K F H v d → ∀ S : Addr → Prop, ∀ ds, d = .lst ds → ∃ a xs, v = .ref a ∧ (LsAt K F H a xs ∨ (S a ∧ H a = some (.lst xs))) ∧ Reps K F H xs ds := fun r S ds e => by
    subst e
    cases r with
    | lst h1 h2 => exact ⟨_, _, rfl, .inl h1, h2⟩
  cases b with
  | false => exact ⟨fun _ => False, fun _ _ z => z, fr h _⟩
  | true =>
    rcases h with h | ⟨a, xs, ds, rfl, rfl, h1, h2⟩
    · exact ⟨fun _ => True, (fun z => by cases z), fr h _⟩
    · exact ⟨fun _ => True, (fun z => by cases z), fun ds' e => by cases e; exact ⟨a, xs, rfl, .inr ⟨trivial, h1⟩, h2⟩⟩
theorem OkE.b {e : Ex} (ok : OkE T N n Φ C ca e) {x : Expr} (G : GX T N n Φ C ca sc fn X W) (h : chkE T N sc e x = true) (B : Bs) (b : Bool) :
    PE X x (tG X.K B (wn ca W) (fun _ _ F' H' v d => if b = true then RepX X.K F' H' v d else Rep X.K F' H' v d) fun ρ => ev Φ C ρ b e) := by
  cases b with
  | true => exact ok.x G h B
  | false => exact ok.sh G h B
instance {K : PySem.W.Frag} {b : Bool} : Late (fun (_ : Addr → Prop) (_ : Hp) F' H' (v : V) (d : D) => if b = true then RepX K F' H' v d else Rep K F' H' v d) := ⟨fun _ _ h => h⟩
theorem tI_oc {K : PySem.W.Frag} {Wc : Nat → L2.St → Hp → Prop} {b : Bool} {f : Env → R (List D)} {σ : L2.St} {H : Hp} {R' : It → Hp → Prop} (h : tI K B Wc b f σ H R') :
    ∃ ρ F, StOk K B σ ρ F H ∧ Oc (fun _ _ F' H' J l => ∃ S : Addr → Prop, (b = false → ∀ a, ¬ S a) ∧ Wk K J l S F' H') (fun c => Wc c σ) F H R' (f ρ) := by
  obtain ⟨ρ, F, st, o⟩ := h
  refine ⟨ρ, F, st, ?_⟩
  cases e : f ρ with
  | ok l =>
    rw [e] at o
    exact fun J F' H' e1 ⟨S, h1, h2⟩ => o J S F' H' e1 h1 h2
  | exc c => rw [e] at o; exact o
  | stk => rw [e] at o; exact o
instance {K : PySem.W.Frag} {b : Bool} : Late (fun (_ : Addr → Prop) (_ : Hp) F' H' (J : It) (l : List D) => ∃ S : Addr → Prop, (b = false → ∀ a, ¬ S a) ∧ Wk K J l S F' H') := ⟨fun _ _ h => h⟩
theorem okI_it {e : Ex} (oe : OkE T N n Φ C ca e) : OkI T N n Φ C ca (.it e) := by
  intro tg x sc fn X W G h B b
  simp only [chkI, Bool.and_eq_true] at h
  obtain ⟨h0, h1⟩ := h
  refine ⟨PI.imp (pi_seq (oe.b G h1 B b)) fun σ H R' q => ?_, fun env v => by cases x <;> first | rfl | cases h0⟩
  obtain ⟨ρ, F, st, o⟩ := tI_oc q
  refine (oc_bind (rel := fun _ _ F' H' v d => if b = true then RepX X.K F' H' v d else Rep X.K F' H' v d) (f := fun ρ => ev Φ C ρ b e) st o).imp fun v H1 ⟨F1, d, e1, st1, r1, o1⟩ => ?_
  obtain ⟨S, hS, src⟩ := rx_src b r1
  cases d <;> try exact o1.elim
  case lst ds =>
    obtain ⟨a, xs, rfl, hl, rr⟩ := src ds rfl
    refine .inl ⟨a, xs, rfl, ?_, o1 _ F1 H1 Ext.refl ⟨S, hS, wk_list S hl rr⟩⟩
    rcases hl with hl | ⟨_, hl⟩
    · exact hl.sq
    · exact .inl (.inl hl)
  case tup ds =>
    have r2 : RepX X.K F1 H1 v (.tup ds) := by cases b with
      | true => exact r1
      | false => exact .inl r1
    obtain ⟨a, xs, rfl, hl, rr⟩ := r2.tup
    exact .inr ⟨a, xs, rfl, hl, o1 _ F1 H1 Ext.refl ⟨S, hS, wk_tup S hl rr⟩⟩
theorem boot_nm {x : Str} (h : x ∈ bltNames) (G : GX T N n Φ C ca sc fn X W) : X.mg x = none := G.blt x h
def lenEs : Exs → Nat
  | .nil => 0
  | .cons _ es => lenEs es + 1
theorem evs_len {ρ : Env} {b : Bool} : ∀ {es : Exs} {l : List D}, evs Φ C ρ b es = .ok l → l.length = lenEs es
  | .nil, l, h => by cases h; rfl
  | .cons e es, l, h => by
    obtain ⟨d, _, h2⟩ := bind_ok h
    obtain ⟨r, h3, h4⟩ := bind_ok h2
    cases h4
    simp only [List.length_cons, lenEs, evs_len h3]
theorem chkEs_len : ∀ {es : Exs} {xs : List Expr}, chkEs T N sc es xs = true → lenEs es = xs.length
  | .nil, [], _ => rfl
  | .nil, _ :: _, h => by cases h
  | .cons _ _, [], h => by cases h
  | .cons e es, x :: xs, h => by
    simp only [chkEs, Bool.and_eq_true] at h
    simp only [List.length_cons, lenEs, chkEs_len h.2]
theorem okI_rng {es : Exs} (os : OkEs T N n Φ C ca es) : OkI T N n Φ C ca (.rng es) := by
  intro tg x sc fn X W G h B b
  cases x <;> try (cases tg <;> cases h; done)
  rename_i g xs kw p
  cases g <;> try (cases tg <;> cases h; done)
  cases kw <;> try (cases tg <;> cases h; done)
  rename_i g gp
  have h' : ((g = Str.ofString "range" ∧ glB sc g = true) ∧ chkEs T N sc es xs = true) ∧ (xs.length = 1 ∨ xs.length = 2 ∨ xs.length = 3) := by
    cases tg <;> simpa only [chkI, Bool.and_eq_true, decide_eq_true_eq] using h
  obtain ⟨⟨⟨h1, h2⟩, h3⟩, h4⟩ := h'
  subst h1
  have hp := chkEs_plain h3
  refine ⟨?_, fun env v => rfl⟩
  have run : ∀ {σ H R'}, tI X.K B (wn ca W) b (fun ρ => evi Φ C ρ b (.rng es)) σ H R' → tG X.K B (wn ca W) (rShs X.K) (fun ρ => evs Φ C ρ false es) σ H fun vs H1 => ∃ F1 ds, ds.length = xs.length ∧ Reps X.K F1 H1 vs ds ∧
      ((∃ j, ds = [.int j] ∧ rngOk j ∧ R' (Itr 0 j.toNat) H1) ∨ (∃ i j, ds = [.int i, .int j] ∧ rngOk i ∧ rngOk j ∧ R' (Itr i (j - i).toNat) H1) ∨ ∃ i j c, ds = [.int i, .int j, .int c] ∧ rng3Ok i j c ∧ R' (Itc i c (Builtin.Range.rangeSize i j c).toNat) H1) := fun {σ H R'} q => by
    obtain ⟨ρ, F, st, o⟩ := tI_oc q
    refine (oc_bindE (rel := rShs X.K) (f := fun ρ => evs Φ C ρ false es) st o).imp fun vs H1 ⟨F1, ds, e0, e1, st1, r1, o1⟩ => ⟨F1, ds, by rw [evs_len e0, chkEs_len h3], r1, ?_⟩
    unfold rngV at o1
    split at o1
    · split at o1
      · exact .inl ⟨_, rfl, ‹_›, o1 _ F1 H1 Ext.refl ⟨fun _ => False, fun _ _ z => z, wk_rng _⟩⟩
      · exact o1.elim
    · split at o1
      · rename_i hr
        exact .inr (.inl ⟨_, _, rfl, hr.1, hr.2, o1 _ F1 H1 Ext.refl ⟨fun _ => False, fun _ _ z => z, wk_rng _⟩⟩)
      · exact o1.elim
    · split at o1
      · exact .inr (.inr ⟨_, _, _, rfl, ‹_›, o1 _ F1 H1 Ext.refl ⟨fun _ => False, fun _ _ z => z, wk_rngC _⟩⟩)
      · exact o1.elim
    · exact o1.elim
  rcases xs with _ | ⟨x, _ | ⟨y, _ | ⟨z, _ | ⟨w, xs⟩⟩⟩⟩
  · rcases h4 with h4 | h4 | h4 <;> cases h4
  · simp only [List.all_cons, Bool.and_eq_true] at hp
    refine PI.imp (pi_range1 (G.gl h2) (boot_nm (by decide +kernel) G) (os _ sc fn X W G h3 B).1 (star_cons hp.1 [] X.env)) fun σ H R' q => (run q).imp fun vs H1 ⟨F1, ds, ln, r, k⟩ => ?_
    rcases k with ⟨j, rfl, hj, k⟩ | ⟨i, j, rfl, hi, hj, k⟩ | ⟨i, j, c, rfl, hi, k⟩
    · cases r with
      | cons r1 r2 => cases r2; cases r1; exact ⟨j, rfl, hj.1, hj.2, k⟩
    · simp at ln
    · simp at ln
  · simp only [List.all_cons, Bool.and_eq_true] at hp
    refine PI.imp (pi_range2 (G.gl h2) (boot_nm (by decide +kernel) G) (os _ sc fn X W G h3 B).1 (by rw [star_cons hp.1, star_cons hp.2.1]; rfl) (by rw [star_cons hp.2.1]; rfl)) fun σ H R' q => (run q).imp fun vs H1 ⟨F1, ds, ln, r, k⟩ => ?_
    rcases k with ⟨j, rfl, hj, k⟩ | ⟨i, j, rfl, hi, hj, k⟩ | ⟨i, j, c, rfl, hi, k⟩
    · simp at ln
    · cases r with
      | cons r1 r2 =>
        cases r2 with
        | cons r2 r3 => cases r3; cases r1; cases r2; exact ⟨i, j, rfl, ⟨hi.1, hi.2, hj.1, hj.2⟩, k⟩
    · simp at ln
  · simp only [List.all_cons, Bool.and_eq_true] at hp
    refine PI.imp (pi_range3 (G.gl h2) (boot_nm (by decide +kernel) G) (os _ sc fn X W G h3 B).1 (by rw [star_cons hp.1]) (by rw [star_cons hp.2.1, star_cons hp.2.2.1]; rfl)) fun σ H R' q => (run q).imp fun vs H1 ⟨F1, ds, ln, r, k⟩ => ?_
    rcases k with ⟨j, rfl, hj, k⟩ | ⟨i, j, rfl, hi, hj, k⟩ | ⟨i, j, c, rfl, hi, k⟩
    · simp at ln
    · simp at ln
    · cases r with
      | cons r1 r2 =>
        cases r2 with
        | cons r2 r3 =>
          cases r3 with
          | cons r3 r4 => cases r4; cases r1; cases r2; cases r3; exact ⟨i, j, c, _, rfl, hi, k⟩
  · rcases h4 with h4 | h4 | h4 <;> (simp only [List.length_cons] at h4; omega)
theorem okI_enm {e : Ex} (oe : OkE T N n Φ C ca e) : OkI T N n Φ C ca (.enm e) := by
  intro tg x sc fn X W G h B b
  cases tg <;> try (cases h; done)
  cases x <;> try (cases h; done)
  rename_i elts k tp g xs kw p
  cases g <;> try (cases h; done)
  rcases xs with _ | ⟨x, _ | ⟨y, xs⟩⟩ <;> try (cases h; done)
  cases kw <;> try (cases h; done)
  rename_i g gp
  simp only [chkI, Bool.and_eq_true, decide_eq_true_eq] at h
  obtain ⟨⟨⟨h1, h2⟩, h3⟩, h4⟩ := h
  subst h1
  refine ⟨PI.imp (pi_enumT (G.gl h2) (boot_nm (by decide +kernel) G) (pa_cons' h3 (oe.b G h4 B b) pa_nil) (star_cons h3 [] X.env)) fun σ H R' q => ?_, fun env v => rfl⟩
  obtain ⟨ρ, F, st, o⟩ := tI_oc q
  refine (oc_bind (rel := fun _ _ F' H' v d => if b = true then RepX X.K F' H' v d else Rep X.K F' H' v d) (f := fun ρ => ev Φ C ρ b e) st o).imp fun v H1 ⟨F1, d, e1, st1, r1, o1⟩ => ?_
  obtain ⟨S, hS, src⟩ := rx_src b r1
  cases d <;> try exact o1.elim
  case lst ds =>
    obtain ⟨a, xs, rfl, hl, rr⟩ := src _ rfl
    refine ⟨a, xs, rfl, .inl ⟨?_, o1 _ F1 H1 Ext.refl ⟨S, hS, wk_enm S hl rr⟩⟩⟩
    rcases hl with hl | ⟨_, hl⟩
    · exact hl.sq
    · exact .inl (.inl hl)
  case tup ds =>
    have rx : RepX X.K F1 H1 v (.tup ds) := by
      cases b with
      | true => exact r1
      | false => exact .inl r1
    obtain ⟨a, xs, rfl, hl, rr⟩ := rx.tup
    exact ⟨a, xs, rfl, .inr ⟨hl, o1 _ F1 H1 Ext.refl ⟨S, hS, wk_enmT S hl rr⟩⟩⟩
theorem sub_wk {K : PySem.W.Frag} {J : It} {l : List D} {S S' : Addr → Prop} {F : Addr → Prop} {H : Hp} (h : ∀ a, S a → S' a) (w : Wk K J l S F H) : Wk K J l S' F H := fun F1 H1 a b c d => w F1 H1 a b (fun x xs sx => c x xs (h x sx)) d
theorem okI_zip {e e' : Ex} (oe : OkE T N n Φ C ca e) (oe' : OkE T N n Φ C ca e') : OkI T N n Φ C ca (.zip e e') := by
  intro tg x sc fn X W G h B b
  cases tg <;> try (cases h; done)
  cases x <;> try (cases h; done)
  rename_i elts k tp g xs kw p
  cases g <;> try (cases h; done)
  rcases xs with _ | ⟨x, _ | ⟨y, _ | ⟨z, xs⟩⟩⟩ <;> try (cases h; done)
  cases kw <;> try (cases h; done)
  rename_i g gp
  simp only [chkI, Bool.and_eq_true, decide_eq_true_eq] at h
  obtain ⟨⟨⟨⟨⟨h1, h2⟩, h3⟩, h4⟩, h5⟩, h6⟩ := h
  subst h1
  refine ⟨PI.imp (RZ.pi_zipA (G.gl h2) (boot_nm (by decide +kernel) G) (pa_cons' h3 (oe.b G h5 B b) (pa_cons' h4 (oe'.b G h6 B b) pa_nil)) (star_cons h3 [y] X.env) (by rw [star_cons h4]; rfl)) fun σ H R' q => ?_, fun env v => rfl⟩
  obtain ⟨ρ, F, st, o⟩ := tI_oc q
  refine (oc_bind (rel := fun _ _ F' H' v d => if b = true then RepX X.K F' H' v d else Rep X.K F' H' v d) (f := fun ρ => ev Φ C ρ b e) st o).imp fun v H1 ⟨F1, d, e1, st1, r1, o1⟩ => ?_
  refine (oc_bind (rel := fun _ _ F' H' v d => if b = true then RepX X.K F' H' v d else Rep X.K F' H' v d) (f := fun ρ => ev Φ C ρ b e') st1 o1).imp fun v' H2 ⟨F2, d', e2, st2, r2, o2⟩ => ?_
  have r1' : if b = true then RepX X.K F2 H2 v d else Rep X.K F2 H2 v d := by
    cases b with
    | true => exact RepX.ext e2 r1
    | false => exact Rep.ext e2 r1
  obtain ⟨S, hS, src⟩ := rx_src b r1'
  obtain ⟨S', hS', src'⟩ := rx_src b r2
  have toX : ∀ {v d}, (if b = true then RepX X.K F2 H2 v d else Rep X.K F2 H2 v d) → RepX X.K F2 H2 v d := fun {v d} r => by
    cases b with
    | true => exact r
    | false => exact .inl r
  cases d <;> cases d' <;> try exact o2.elim
  case lst.lst ds ds' =>
    obtain ⟨a, xs, rfl, hl, rr⟩ := src _ rfl
    obtain ⟨a', xs', rfl, hl', rr'⟩ := src' _ rfl
    have wd : ∀ {c ys}, (LsAt X.K F2 H2 c ys ∨ (S c ∧ H2 c = some (.lst ys))) → (LsAt X.K F2 H2 c ys ∨ ((fun a => S a ∨ S' a) c ∧ H2 c = some (.lst ys))) := fun h => h.imp id fun h => ⟨.inl h.1, h.2⟩
    have wd' : ∀ {c ys}, (LsAt X.K F2 H2 c ys ∨ (S' c ∧ H2 c = some (.lst ys))) → (LsAt X.K F2 H2 c ys ∨ ((fun a => S a ∨ S' a) c ∧ H2 c = some (.lst ys))) := fun h => h.imp id fun h => ⟨.inr h.1, h.2⟩
    have sq : ∀ {P : Addr → Prop} {c ys}, (LsAt X.K F2 H2 c ys ∨ (P c ∧ H2 c = some (.lst ys))) → SqL X.K H2 c ys := fun h => by
      rcases h with h | ⟨_, h⟩
      · exact h.sq
      · exact .inl (.inl h)
    refine ⟨a, a', xs, xs', rfl, .inl ⟨sq hl, sq hl', o2 _ F2 H2 Ext.refl ⟨fun a => S a ∨ S' a, fun z a q => ?_, wk_zip _ (wd hl) (wd' hl') rr rr'⟩⟩⟩
    rcases q with q | q
    · exact hS z a q
    · exact hS' z a q
  case tup.tup ds ds' =>
    obtain ⟨a, xs, rfl, hl, rr⟩ := (toX r1').tup
    obtain ⟨a', xs', rfl, hl', rr'⟩ := (toX r2).tup
    exact ⟨a, a', xs, xs', rfl, .inr ⟨hl, hl', o2 _ F2 H2 Ext.refl ⟨S, hS, wk_zipT S hl hl' rr rr'⟩⟩⟩
/-! ### comprehensions -/
/-- a comprehension's parts: the library's reading of it, and ours -/
structure CompP (X : Cx) (B : Bs) (ca : Nat → Addr) (W : WX) (f : Env → R D) (elt tg it : Expr) (ifs : List Expr) (scope : Scope) : Prop where
  ex : ∃ (own : List (Str × Nat)) (wi : TI) (g : TG) (tt : TT) (te : TE), PI X tg it wi ∧ BlkOk X.N X.env.scope scope own ∧
    (∀ (s : Shared) (H : Hp) (A : Addr) (cl : List (Str × Addr)) (fp : List Addr), PG (X.blk s H scope (compEnvC scope cl A X.env) fp) tg g) ∧
    (∀ (s : Shared) (H : Hp) (A : Addr) (cl : List (Str × Addr)) (fp : List Addr), PTs (X.blk s H scope (compEnvC scope cl A X.env) fp) ifs tt) ∧
    (∀ (s : Shared) (H : Hp) (A : Addr) (cl : List (Str × Addr)) (fp : List Addr), PE (X.blk s H scope (compEnvC scope cl A X.env) fp) elt te) ∧
    (∀ x, foldedSetIterable it X.env x = pure x) ∧ ∀ σ H Q, tG X.K B (wn ca W) (rV X.K true) f σ H Q → tLc wi g tt te (own.map (·.2)) σ H Q
theorem comp_parts {e : Ex} {t : Tg} {s : Src} {c : Eo} {ws : List Nat} (oe : OkE T N n Φ C ca e) (os : OkI T N n Φ C ca s) (oc : OkO T N n Φ C ca c) (G : GX T N n Φ C ca sc fn X W) (B : Bs) {elt tg it : Expr} {ifs : List Expr} {k : Int} {scope : Scope} {p : Pos}
    (h : chkE T N sc (.comp e t s c ws) (.ListComp elt [⟨tg, it, ifs, k⟩] scope p) = true) : k = 0 ∧ CompP X B ca W (fun ρ => ev Φ C ρ false (.comp e t s c ws)) elt tg it ifs scope := by
  simp only [chkE, Bool.and_eq_true, decide_eq_true_eq] at h
  obtain ⟨⟨⟨⟨⟨⟨⟨hk, h1⟩, h2⟩, h3⟩, h4⟩, h5⟩, h6⟩, h7⟩ := h
  subst hk
  subst h2
  obtain ⟨hi, hfold⟩ := os tg it sc fn X W G h5 B true
  have hss : ∀ i ∈ slotsT t, i ∈ (ownOf N scope).map (·.2) := fun i hi => by
    have := List.all_eq_true.mp h3 i hi
    simpa using this
  have hblk : BlkOk X.N X.env.scope scope (ownOf N scope) := by rw [G.names, G.scope]; exact blkOk_by h1
  let B' : Bs := { B with L := fun _ => none }
  refine ⟨rfl, ⟨ownOf N scope, _, tgR X.K B' t, tG X.K B' (wn ca fun _ _ _ _ => False) rEq fun ρ => evc Φ C ρ c, tG X.K B' (wn ca fun _ _ _ _ => False) (rSh X.K) fun ρ => ev Φ C ρ false e,
    hi, hblk, fun s H A cl fp => pg_ok (G.blk s H scope A cl fp) h4, fun s H A cl fp => oc.2 ifs _ _ _ _ (G.blk s H scope A cl fp) h6 B', fun s H A cl fp => oe.sh (G.blk s H scope A cl fp) h7 B', hfold X.env, fun σ H Q ⟨ρ, F, st, o⟩ => ?_⟩⟩
  refine ⟨ρ, F, st, ?_⟩
  dsimp only [ev] at o ⊢
  cases q : evi Φ C ρ true s with
  | exc k => rw [q] at o; exact o
  | stk => rw [q] at o; exact o
  | ok l =>
    rw [q] at o
    dsimp only [R.bind] at o
    split at o
    · rename_i hl
      cases q2 : compL (fun x => setT t x (wipeE ρ ((ownOf N scope).map (·.2)))) (fun ρ' => (evc Φ C ρ' c).nox) (fun ρ' => (ev Φ C ρ' false e).nox) l with
      | exc k =>
        exact absurd q2 (compL_noexc (fun x c => setT_noexc) (fun ρ' c => nox_noexc) (fun ρ' c => nox_noexc))
      | stk => rw [q2] at o; exact o.elim
      | ok total =>
        rw [q2] at o
        dsimp only
        intro J S F1 H1 e1 _ wk Dd hD
        have dm1 : Dom F1 H1 := (st.mono e1).dom
        refine ⟨fun i m H' => m = l.length - i ∧ i ≤ l.length ∧ ∃ Fi ds xs ys, Ext F1 Fi H1 H' ∧ ¬ Fi Dd ∧ H' Dd = some (.lst xs) ∧ Reps X.K Fi H' xs ds ∧ ds.length ≤ i ∧
          compL (fun x => setT t x (wipeE ρ ((ownOf N scope).map (·.2)))) (fun ρ' => (evc Φ C ρ' c).nox) (fun ρ' => (ev Φ C ρ' false e).nox) (l.drop i) = .ok ys ∧ ds ++ ys = total,
          ⟨l.length, rfl, Nat.zero_le _, F1, [], [], total, Ext.upd hD, dm1.ne hD, upd_same, .nil, Nat.le_refl _, by simpa using q2, rfl⟩, ?_⟩
        rintro i m H' ⟨rfl, hi, Fi, ds, xs, ys, ext, nf, hd, rr, hlen, hc, htot⟩
        have dmi : Dom Fi H' := dm1.ext ext
        obtain ⟨wgo, wstop⟩ := wk Fi H' ext.sub ext.pres (fun a zs _ z => ext.keep _ _ z) dmi
        by_cases hlt : i < l.length
        · obtain ⟨d, hd1⟩ : ∃ d, l[i]? = some d := ⟨l[i], List.getElem?_eq_getElem hlt⟩
          obtain ⟨go, yld⟩ := wgo i d hd1
          have hdrop : l.drop i = d :: l.drop (i + 1) := by
            rw [List.drop_eq_getElem_cons hlt]
            rw [List.getElem?_eq_getElem hlt] at hd1
            cases hd1; rfl
          rw [hdrop] at hc
          obtain ⟨ρ1, hs, hc⟩ := bind_ok hc
          obtain ⟨b, hb, hc⟩ := bind_ok hc
          have hb := nox_ok hb
          refine .inr ⟨go, fun H'' => ∃ Fi ds xs ys, Ext F1 Fi H1 H'' ∧ ¬ Fi Dd ∧ H'' Dd = some (.lst xs) ∧ Reps X.K Fi H'' xs ds ∧ ds.length ≤ i + 1 ∧
            compL (fun x => setT t x (wipeE ρ ((ownOf N scope).map (·.2)))) (fun ρ' => (evc Φ C ρ' c).nox) (fun ρ' => (ev Φ C ρ' false e).nox) (l.drop (i + 1)) = .ok ys ∧ ds ++ ys = total,
            fun H'' w => ⟨l.length - (i + 1), by omega, rfl, hlt, w⟩, fun x H2 y => ?_⟩
          obtain ⟨e2, rd⟩ := yld x H2 y
          have st2 := ((st.mono e1).mono (ext.trans e2)).wipe ((ownOf N scope).map (·.2))
          refine ⟨wipeE ρ ((ownOf N scope).map (·.2)), Fi, d, st2, rd, ρ1, hs, fun σ1 st3 ln3 sl3 => ⟨wipe_eq ln3 hss sl3, ρ1, Fi, st3, ?_⟩⟩
          dsimp only
          rw [hb]
          intro b' F3 H3 e3 eb
          have eb : b' = b := eb
          subst eb
          cases b' with
          | false =>
            have x3 : Ext F1 F3 H1 H3 := (ext.trans e2).trans e3
            refine ⟨F3, ds, xs, ys, x3, fun z => ?_, e3.keep _ _ (e2.keep _ _ hd), rr.ext (e2.trans e3), Nat.le_succ_of_le hlen, hc, htot⟩
            rcases (e2.trans e3).new _ z with z | ⟨z, _⟩
            · exact nf z
            · rw [z] at hd; cases hd
          | true =>
            obtain ⟨y1, hy, hc⟩ := bind_ok hc
            obtain ⟨ys2, hys, hc⟩ := bind_ok hc
            have hy := nox_ok hy
            cases hc
            refine ⟨ρ1, F3, st3.mono e3, ?_⟩
            dsimp only
            rw [hy]
            intro v F4 H4 e4 rv
            have x4 : Ext Fi F4 H' H4 := (e2.trans e3).trans e4
            have nf4 : ¬ F4 Dd := fun z => by
              rcases x4.new _ z with z | ⟨z, _⟩
              · exact nf z
              · rw [z] at hd; cases hd
            have hd4 : H4 Dd = some (.lst xs) := x4.keep _ _ hd
            have pr := pres_mut (o := .lst (xs ++ [v])) nf4 hd4
            refine ⟨xs, hd4, ll_lt (by rw [rr.length]; omega), F4, ds ++ [y1], xs ++ [v], ys2, ⟨fun a ob z => ?_, fun a z => (ext.trans x4).sub a z, fun a z => ?_⟩, nf4, upd_same, ?_, by simp only [List.length_append, List.length_singleton]; omega, hys, by rw [← htot]; simp⟩
            · rw [upd_ne (ne_of_none z hD)]
              exact (ext.trans x4).keep _ _ z
            · rcases (ext.trans x4).new a z with z | ⟨z, ob, w⟩
              · exact .inl z
              · refine .inr ⟨z, ?_⟩
                by_cases ea : a = Dd
                · subst ea; exact ⟨_, upd_same⟩
                · exact ⟨ob, by rw [upd_ne ea]; exact w⟩
            · exact ((rr.ext x4).pres pr fun _ z => z).append (.cons (rv.pres pr fun _ z => z) .nil)
        · have ei : i = l.length := by omega
          subst ei
          rw [List.drop_length] at hc
          cases hc
          simp only [List.append_nil] at htot
          subst htot
          exact .inl ⟨wstop _ (Nat.le_refl _), o _ Fi H' (e1.trans ext) ⟨Dd, xs, rfl, nf, e1.back hD, hd, rr⟩⟩
    · exact o.elim
theorem ok_comp {e : Ex} {t : Tg} {s : Src} {c : Eo} {ws : List Nat} (oe : OkE T N n Φ C ca e) (os : OkI T N n Φ C ca s) (oc : OkO T N n Φ C ca c) : OkE T N n Φ C ca (.comp e t s c ws) := by
  intro x sc fn X W G h B
  cases x <;> try (cases h; done)
  rename_i elt gens scope p
  rcases gens with _ | ⟨⟨tg, it, ifs, k⟩, _ | ⟨g2, gens⟩⟩ <;> try (cases h; done)
  obtain ⟨hk, ⟨own, wi, g, tt, te, h1, h2, h3, h4, h5, h6, h7⟩⟩ := comp_parts oe os oc G B h
  subst hk
  exact both_def (pe_lc (own := own) G.calm (by rw [G.names]; exact G.nd) h1 h2 h3 h4 h5 h6) rfl h7
mutual
theorem ok_E : ∀ e : Ex, OkE T N n Φ C ca e
  | .var i => ok_var i
  | .glb g => ok_glb g
  | .non => ok_non
  | .bl b => ok_bl b
  | .int i => ok_int i
  | .str s => ok_str s
  | .bin o a b => ok_bin (ok_E a) (ok_E b)
  | .neg a => ok_neg (ok_E a)
  | .cmp o a b => ok_cmp (ok_E a) (ok_E b)
  | .cmp2 o o' a b c => ok_cmp2 (ok_E a) (ok_E b) (ok_E c)
  | .and a b => ok_and (ok_E a) (ok_E b)
  | .or a b => ok_or (ok_E a) (ok_E b)
  | .not a => ok_not (ok_E a)
  | .ite c a b => ok_ite (ok_E c) (ok_E a) (ok_E b)
  | .tup es => ok_tup (ok_Es es)
  | .lst es => ok_lst (ok_Es es)
  | .idx a i => ok_idx (ok_E a) (ok_E i)
  | .slc a lo hi => ok_slc (ok_E a) (ok_O lo) (ok_O hi)
  | .slcS a s => ok_slcS (ok_E a) (ok_O s)
  | .call f es => ok_call (ok_Es es)
  | .callD f es d => ok_callD (ok_Es es)
  | .callK f es e => ok_callK (ok_Es es) (ok_E e)
  | .bfn b es => ok_bfn (ok_Es es)
  | .isi a ts => ok_isi (ok_E a)
  | .comp e t s c ws => ok_comp (ok_E e) (ok_I s) (ok_O c)
  | .dix i k => ok_dix (ok_E k)
  | .dgt i k d => ok_dgt (ok_E k) (ok_E d)
  | .dso i => ok_dso
  | .sset a => ok_sset (ok_E a)
  | .maxd a d => ok_maxd (ok_E a) (ok_E d)
  | .inn n a b => ok_inn (ok_E a) (ok_E b)
theorem ok_Es : ∀ es : Exs, OkEs T N n Φ C ca es
  | .nil => oks_nil
  | .cons e es => oks_cons (ok_E e) (ok_Es es)
theorem ok_O : ∀ e : Eo, OkO T N n Φ C ca e
  | .no => oko_no
  | .yes e => oko_yes (ok_E e)
theorem ok_I : ∀ s : Src, OkI T N n Φ C ca s
  | .it e => okI_it (ok_E e)
  | .rng es => okI_rng (ok_Es es)
  | .enm e => okI_enm (ok_E e)
  | .zip a b => okI_zip (ok_E a) (ok_E b)
end
end
end Rv
/-! Statements: the checks, and small ones. -/
namespace Rv
open PySem PySem.Spec PyProof.Rows L2
def locB (sc : Scope) (x : Str) : Bool := decide (sc.names.lookup x = some .local) || decide (sc.names.lookup x = some .cell)
/-- a, b = x, y is stored from the right, without a pair -/
def parB (sc : Scope) (x y : Str) (px py : Pos) (a b : Expr) : Bool :=
  decide (sc.names.lookup x = some .local) && decide (sc.names.lookup y = some .local) && (px.line == py.line) && !(x == y) && plainX a && plainX b &&
    !([a, b].all (foldedForSure 8)) && !([a, b].all (constantsAlone 8))
/-- the forms of statements -/
structure ParM where
  x : Str
  px : Pos
  y : Str
  py : Pos
  k : Nat
  tp : Pos
  u : Expr
  v : Expr
  k2 : Nat
  p2 : Pos
  p : Pos
def parM : Stmt → Option ParM
  | .Assign [.Tuple [.Name x px, .Name y py] k tp] (.Tuple [u, v] k2 p2) p => some ⟨x, px, y, py, k, tp, u, v, k2, p2, p⟩
  | _ => none
theorem parM_eq {st : Stmt} {m : ParM} (h : parM st = some m) : st = .Assign [.Tuple [.Name m.x m.px, .Name m.y m.py] m.k m.tp] (.Tuple [m.u, m.v] m.k2 m.p2) m.p := by
  unfold parM at h
  split at h <;> cases h
  rfl
structure Par3M where
  x : Str
  px : Pos
  y : Str
  py : Pos
  z : Str
  pz : Pos
  k : Nat
  tp : Pos
  u : Expr
  v : Expr
  w : Expr
  k2 : Nat
  p2 : Pos
  p : Pos
def par3M : Stmt → Option Par3M
  | .Assign [.Tuple [.Name x px, .Name y py, .Name z pz] k tp] (.Tuple [u, v, w] k2 p2) p => some ⟨x, px, y, py, z, pz, k, tp, u, v, w, k2, p2, p⟩
  | _ => none
theorem par3M_eq {st : Stmt} {m : Par3M} (h : par3M st = some m) : st = .Assign [.Tuple [.Name m.x m.px, .Name m.y m.py, .Name m.z m.pz] m.k m.tp] (.Tuple [m.u, m.v, m.w] m.k2 m.p2) m.p := by
  unfold par3M at h
  split at h <;> cases h
  rfl
def par3B (sc : Scope) (x y z : Str) (px py pz : Pos) (a b c : Expr) : Bool :=
  decide (sc.names.lookup x = some .local) && decide (sc.names.lookup y = some .local) && decide (sc.names.lookup z = some .local) && (px.line == py.line) && (px.line == pz.line) && !(x == y) && !(x == z) && !(y == z) && plainX a && plainX b && plainX c &&
    !([a, b, c].all (foldedForSure 8)) && !([a, b, c].all (constantsAlone 8))
def celled (sc : Scope) : Expr → Bool
  | .Name x _ => !(sc.names.lookup x == some .local)
  | _ => true
theorem sw_none {env : PySem.Env} {ts vs : List Expr} {k k2 : Nat} {tp p2 : Pos} (h : ts.any (celled env.scope) = true) : swappedStores [.Tuple ts k tp] (.Tuple vs k2 p2) env = pure none := by
  obtain ⟨t, ht, hc⟩ := List.any_eq_true.mp h
  have hlt : ∀ (l : Nat) (us : List Expr), t ∈ us → (us.filterMap fun u => match u with
      | .Name id pos => if env.kindOf id == some .local && pos.line == l then some id else none
      | _ => none).length < us.length := by
    intro l us
    induction us with
    | nil => intro h; cases h
    | cons u us ih =>
      intro hm
      have hle : ∀ us : List Expr, (us.filterMap fun u => match u with
        | .Name id pos => if env.kindOf id == some .local && pos.line == l then some id else none
        | _ => none).length ≤ us.length := fun us => List.length_filterMap_le _ _
      have h2 := hle us
      rw [List.filterMap_cons]
      rcases List.mem_cons.mp hm with rfl | hm
      · have e : (match t with
          | .Name id pos => if env.kindOf id == some .local && pos.line == l then some id else none
          | _ => none) = (none : Option Str) := by
          cases t <;> try rfl
          rename_i x px
          simp only [celled, Bool.not_eq_true'] at hc
          have : (env.kindOf x == some .local) = false := hc
          simp only [this, Bool.false_and]
          rfl
        rw [e]
        simp only [List.length_cons]
        omega
      · have := ih hm
        split <;> simp only [List.length_cons] <;> omega
  unfold swappedStores
  simp only [pure_bind]
  split
  · rfl
  · split
    · rfl
    · have := hlt ((ts.head?.map (·.pos.line)).getD 0) ts ht
      rw [if_pos]
      rw [Bool.or_eq_true]
      left
      rw [bne_iff_ne]
      exact Nat.ne_of_lt this
structure SubM where
  x : Str
  xp : Pos
  z : Expr
  zp : Pos
  y : Expr
  p : Pos
def setM : Stmt → Option SubM
  | .Assign [.Subscript (.Name x xp) z zp] y p => some ⟨x, xp, z, zp, y, p⟩
  | _ => none
theorem setM_eq {st : Stmt} {m : SubM} (h : setM st = some m) : st = .Assign [.Subscript (.Name m.x m.xp) m.z m.zp] m.y m.p := by
  unfold setM at h
  split at h <;> cases h
  rfl
def augM : Stmt → Option (SubM × Operator)
  | .AugAssign (.Subscript (.Name x xp) z zp) o y p => some (⟨x, xp, z, zp, y, p⟩, o)
  | _ => none
theorem augM_eq {st : Stmt} {m : SubM} {o : Operator} (h : augM st = some (m, o)) : st = .AugAssign (.Subscript (.Name m.x m.xp) m.z m.zp) o m.y m.p := by
  unfold augM at h
  split at h <;> cases h
  rfl
structure AppM where
  x : Str
  xp : Pos
  m : Str
  ap : Pos
  y : Expr
  cp : Pos
  p : Pos
def appM : Stmt → Option AppM
  | .Expr (.Call (.Attribute (.Name x xp) m ap) [y] [] cp) p => some ⟨x, xp, m, ap, y, cp, p⟩
  | _ => none
theorem appM_eq {st : Stmt} {m : AppM} (h : appM st = some m) : st = .Expr (.Call (.Attribute (.Name m.x m.xp) m.m m.ap) [m.y] [] m.cp) m.p := by
  unfold appM at h
  split at h <;> cases h
  rfl
def rseM : Stmt → Option (Str × Pos × Pos × Pos)
  | .Raise (some (.Call (.Name x xp) [] [] cp)) none p => some (x, xp, cp, p)
  | _ => none
theorem rseM_eq {st : Stmt} {x : Str} {xp cp p : Pos} (h : rseM st = some (x, xp, cp, p)) : st = .Raise (some (.Call (.Name x xp) [] [] cp)) none p := by
  unfold rseM at h
  split at h <;> cases h
  rfl
structure TryM where
  body : List Stmt
  en : Str
  kn : Str
  np : Pos
  kp : Pos
  fp : Pos
  ep : Pos
  cp : Pos
  ap : Pos
  hp : Pos
  p : Pos
def tryM : Stmt → Option TryM
  | .Try body [.ExceptHandler (some (.Name tn np)) (some en) [.Assign [.Name kn kp] (.Call (.Name fn fp) [.Name en2 ep] [] cp) ap] hp] [] [] p =>
    if tn = Str.ofString "TurnError" ∧ fn = Str.ofString "_law_kin" ∧ en2 = en then some ⟨body, en, kn, np, kp, fp, ep, cp, ap, hp, p⟩ else none
  | _ => none
theorem tryM_eq {st : Stmt} {m : TryM} (h : tryM st = some m) : st = .Try m.body [.ExceptHandler (some (.Name (Str.ofString "TurnError") m.np)) (some m.en) [.Assign [.Name m.kn m.kp] (.Call (.Name (Str.ofString "_law_kin") m.fp) [.Name m.en m.ep] [] m.cp) m.ap] m.hp] [] [] m.p := by
  unfold tryM at h
  split at h
  · split at h
    · rename_i q
      obtain ⟨q1, q2, q3⟩ := q
      cases h
      subst q1 q2 q3
      rfl
    · cases h
  · cases h
def tryBody : Stmt → List Stmt
  | .Try body _ _ _ _ => body
  | _ => []
section
variable (T : Tab) (N : List Str) (sc : Scope)
mutual
def chkS : S → Stmt → Bool
  | .asg i e fr, .Assign [.Name x _] y _ => decide (N[i]? = some x) && locB sc x && (!fr || isFr e) && chkE T N sc e y
  | .unp t e, .Assign [.Tuple ts k p] y _ => (match y with | .Tuple _ _ _ => ts.any (celled sc) | _ => true) && chkG N sc (fun _ => true) t (.Tuple ts k p) && chkE T N sc e y
  | .par i j a b, st => (match parM st with
    | some m => decide (N[i]? = some m.x) && decide (N[j]? = some m.y) && parB sc m.x m.y m.px m.py m.u m.v && chkE T N sc a m.u && chkE T N sc b m.v
    | none => false)
  | .par3 i j l a b c, st => (match par3M st with
    | some m => decide (N[i]? = some m.x) && decide (N[j]? = some m.y) && decide (N[l]? = some m.z) && par3B sc m.x m.y m.z m.px m.py m.pz m.u m.v m.w && chkE T N sc a m.u && chkE T N sc b m.v && chkE T N sc c m.w
    | none => false)
  | .parO i j a b f g, st => (match parM st with
    | some m => (!f || isFr a) && (!g || isFr b) && (decide (N[i]? = some m.x) && decide (N[j]? = some m.y) && parB sc m.x m.y m.px m.py m.u m.v && chkE T N sc a m.u && chkE T N sc b m.v)
    | none => false)
  | .par3O i j l a b c f g h, st => (match par3M st with
    | some m => (!f || isFr a) && (!g || isFr b) && (!h || isFr c) && (decide (N[i]? = some m.x) && decide (N[j]? = some m.y) && decide (N[l]? = some m.z) && par3B sc m.x m.y m.z m.px m.py m.pz m.u m.v m.w && chkE T N sc a m.u && chkE T N sc b m.v && chkE T N sc c m.w)
    | none => false)
  | .aug i o e, .AugAssign (.Name x _) p y _ => decide (N[i]? = some x) && locB sc x && opB o p && decide (o = .add ∨ o = .sub ∨ o = .mul ∨ o = .fdv) && chkE T N sc e y
  | .app i e, st => (match appM st with
    | some m => decide (m.m = Str.ofString "append") && (m.ap.endLine == m.cp.line) && chkE T N sc (.var i) (.Name m.x m.xp) && plainX m.y && chkE T N sc e m.y
    | none => false)
  | .setI i k e, st => (match setM st with
    | some m => chkE T N sc (.var i) (.Name m.x m.xp) && plainX m.z && chkE T N sc k m.z && chkE T N sc e m.y
    | none => false)
  | .augI i k o e, st => (match augM st with
    | some (m, p) => chkE T N sc (.var i) (.Name m.x m.xp) && plainX m.z && chkE T N sc k m.z && opB o p && decide (o = .add ∨ o = .sub ∨ o = .mul ∨ o = .fdv) && chkE T N sc e m.y
    | none => false)
  | .ife c a b, .If z x y _ => chkE T N sc c z && chkSs a x && chkSs b y
  | .for_ t s b, .For tg it x [] _ => chkG N sc (fun _ => true) t tg && chkI T N sc s tg it && chkSs b x
  | .forE t i b, .For tg it x [] _ => chkG N sc (fun _ => true) t tg && chkI T N sc (.enm (.var i)) tg it && chkSs b x
  | .whl c b, .While z x [] _ => chkE T N sc c z && chkSs b x
  | .ret e, .Return (some y) _ => chkE T N sc e y
  | .rse c, st => (match rseM st with
    | some (x, _, _, _) => decide (T.exs.lookup x = some c) && glB sc x && okN x
    | none => false)
  | .exp e, .Expr y _ => (match y with | .Call _ _ _ _ => true | _ => false) && chkE T N sc e y
  | .dnw i _, .Assign [.Name x _] (.Dict [] [] _) _ => decide (N[i]? = some x) && locB sc x
  | .dst i k e, st => (match setM st with
    | some m => chkV N sc i (.Name m.x m.xp) && plainX m.z && chkE T N sc k m.z && chkE T N sc e m.y
    | none => false)
  | .tryK b e k, st => (match tryM st with
    | some m => decide (N[e]? = some m.en) && decide (N[k]? = some m.kn) && !(m.en == m.kn) && decide (sc.names.lookup m.en = some .local) && decide (sc.names.lookup m.kn = some .local) && (T.exs.lookup (Str.ofString "TurnError")).isSome && glB sc (Str.ofString "TurnError") && glB sc (Str.ofString "_law_kin") && okN m.en && chkSs b (tryBody st)
    | none => false)
  | .brk, .Break _ => true
  | .cnt, .Continue _ => true
  | .pas, .Pass _ => true
  | _, _ => false
def chkSs : Ss → List Stmt → Bool
  | .nil, [] => true
  | .cons s ss, t :: ts => chkS s t && chkSs ss ts
  | .frz _ ss, ts => chkSs ss ts
  | _, _ => false
end
end
structure ExAt (ca : Nat → Addr) (X : Cx) (x : Str) (c : Nat) : Prop where
  g : X.mg x = some (.ref (ca c))
  q : PySem.W.excIn X.K (ca c) [.type "ValueError", .type "Exception", .type "BaseException", .type "object"] "ValueError.__new__" = true
  k : PySem.W.keepIn X.K (.ref (ca c)) = true
  r : Raises X (.ref (ca c))
/-- the handler of a class's refusals -/
structure KinX (T : Tab) (ca : Nat → Addr) (X : Cx) (c : Nat) (l : List D) : Prop where
  fn : ∃ ns f fd, l = ns.map D.str ∧ X.mg (Str.ofString "_law_kin") = some (.ref f) ∧ PySem.W.keepIn X.K (.ref f) = true ∧ Binds X.K fd [Str.ofString "e"] [] ∧ KinFn X.prog X.w X.K X.mg X.base (L2N.CX X.prog X.w) f fd (ca c) ns
  ex : ∀ cT, T.exs.lookup (Str.ofString "TurnError") = some cT → PySem.W.exmOne X.K (.ref (ca c)) (.ref (ca cT)) = some true
/-- a def's own body -/
structure GD (T : Tab) (N : List Str) (n : Nat) (Φ : Nat → List D → R D) (C : Nat → D) (ca : Nat → Addr) (sc : Scope) (X : Cx) (W : WX) : Prop where
  gx : GX T N n Φ C ca sc (fun _ => true) X W
  own : PassesOwn (model X.prog X.w) X.A X.env X.xe
  tk : L2N.Takes X W
  fkind : X.env.scope.kind = .function
  exs : ∀ x c, T.exs.lookup x = some c → ExAt ca X x c
  kn : ∀ c l, kinOf (C c) = some l → KinX T ca X c l
  stk : X.stack = X.env :: X.outer ∧ X.env.frame = some X.env.locals
/-- what is wanted behind a block -/
def OutOk (K : PySem.W.Frag) (B : Bs) (ca : Nat → Addr) (W : WX) (F : Addr → Prop) (H : Hp) (Dn : Ends) : Out → Prop
  | .nx ρ' => ∀ σ' F' H', StOk K B σ' ρ' F' H' → (∀ a, F a → F' a) → Pres F H H' → Dn.nx σ' H'
  | .bk ρ' => ∀ σ' F' H', StOk K B σ' ρ' F' H' → (∀ a, F a → F' a) → Pres F H H' → Dn.bk σ' H'
  | .ct ρ' => ∀ σ' F' H', StOk K B σ' ρ' F' H' → (∀ a, F a → F' a) → Pres F H H' → Dn.ct σ' H'
  | .exc c ρ' => ∀ σ' F' H', StOk K B σ' ρ' F' H' → (∀ a, F a → F' a) → Pres F H H' → W (.ref (ca c)) none σ' H'
  | .ret d => ∀ v F' H', Ext B.F F' B.H H' → Rep K F' H' v d → Dn.rt v H'
  | .stk => False
def tS (K : PySem.W.Frag) (B : Bs) (ca : Nat → Addr) (W : WX) (f : Env → Out) : TS := fun Dn σ H => ∃ ρ F, StOk K B σ ρ F H ∧ OutOk K B ca W F H Dn (f ρ)
theorem Pres.refl {F : Addr → Prop} {H : Hp} : Pres F H H := ⟨fun _ _ _ h => h, fun _ _ _ h => h, fun _ _ h => h⟩
theorem Pres.trans {F F' : Addr → Prop} {H H' H'' : Hp} (a : Pres F H H') (s : ∀ x, F x → F' x) (b : Pres F' H' H'') : Pres F H H'' :=
  ⟨fun x xs f h => b.lst x xs (s x f) (a.lst x xs f h), fun x o u h => b.frz x o u (a.frz x o u h), fun x xs h => b.tup x xs (a.tup x xs h)⟩
section
variable {K : PySem.W.Frag} {B : Bs} {ca : Nat → Addr} {W : WX} {F F' : Addr → Prop} {H H' : Hp} {Dn : Ends} {σ : L2.St} {ρ : Env}
theorem OutOk.step (s : ∀ a, F a → F' a) (p : Pres F H H') {o : Out} (h : OutOk K B ca W F H Dn o) : OutOk K B ca W F' H' Dn o := by
  cases o with
  | nx ρ' => exact fun σ' F2 H2 st s2 p2 => h σ' F2 H2 st (fun a z => s2 a (s a z)) (p.trans s p2)
  | bk ρ' => exact fun σ' F2 H2 st s2 p2 => h σ' F2 H2 st (fun a z => s2 a (s a z)) (p.trans s p2)
  | ct ρ' => exact fun σ' F2 H2 st s2 p2 => h σ' F2 H2 st (fun a z => s2 a (s a z)) (p.trans s p2)
  | exc c ρ' => exact fun σ' F2 H2 st s2 p2 => h σ' F2 H2 st (fun a z => s2 a (s a z)) (p.trans s p2)
  | ret d => exact h
  | stk => exact h
theorem OutOk.ext (e : Ext F F' H H') {o : Out} (h : OutOk K B ca W F H Dn o) : OutOk K B ca W F' H' Dn o := h.step e.sub e.pres
/-- an expression, then the rest -/
theorem oS_bind {α β : Type} {rel : (Addr → Prop) → Hp → (Addr → Prop) → Hp → β → α → Prop} {f : Env → R α} {g : α → Out} (st : StOk K B σ ρ F H) (o : OutOk K B ca W F H Dn (Out.ofR ρ (f ρ) g)) :
    tG K B (wn ca W) rel f σ H fun b H1 => ∃ F1 a, Ext F F1 H H1 ∧ StOk K B σ ρ F1 H1 ∧ rel F H F1 H1 b a ∧ OutOk K B ca W F1 H1 Dn (g a) := by
  refine ⟨ρ, F, st, ?_⟩
  cases e : f ρ with
  | ok a =>
    rw [e] at o
    exact fun b F1 H1 e1 q => ⟨F1, a, e1, st.mono e1, q, OutOk.ext e1 o⟩
  | exc c => rw [e] at o; exact fun F1 H1 e1 => o σ F1 H1 (st.mono e1) e1.sub e1.pres
  | stk => rw [e] at o; exact o
theorem OutOk.next {ρ' : Env} (h : OutOk K B ca W F H Dn (.nx ρ')) (st : StOk K B σ ρ' F' H') (s : ∀ a, F a → F' a) (p : Pres F H H') : Dn.nx σ H' := h σ F' H' st s p
end
section
variable {T : Tab} {N : List Str} {n : Nat} {Φ : Nat → List D → R D} {C : Nat → D} {ca : Nat → Addr} {sc : Scope} {X : Cx} {W : WX} {B : Bs}
variable (T N n Φ C ca) in
def OkS (s : S) : Prop := ∀ (t : Stmt) (sc : Scope) (X : Cx) (W : WX), GD T N n Φ C ca sc X W → chkS T N sc s t = true → ∀ B, PS X t (tS X.K B ca W (exS Φ C s))
variable (T N n Φ C ca) in
def OkSs (s : Ss) : Prop := ∀ (t : List Stmt) (sc : Scope) (X : Cx) (W : WX), GD T N n Φ C ca sc X W → chkSs T N sc s t = true → ∀ B, PSs X t (tS X.K B ca W (exSs Φ C s))
theorem GD.loc (G : GD T N n Φ C ca sc X W) {x : Str} (h : locB sc x = true) : L2.Loc X.env.scope x ∧ (X.fn x = true ∨ X.env.scope.names.lookup x = some .local) := by
  refine ⟨?_, .inl (G.gx.fnc x rfl)⟩
  unfold L2.Loc
  rw [G.gx.scope]
  unfold locB at h
  simpa using h
theorem setRes {i : Nat} {fr : Bool} {e : Ex} {K : PySem.W.Frag} {F F1 : Addr → Prop} {H H1 : Hp} {σ : L2.St} {ρ : Env} {v : V} {d : D} {Dn : Ends} (hfr : fr = true → isFr e = true) (st : StOk K B σ ρ F H) (e1 : Ext F F1 H H1)
    (r : VD K (isFr e) H F1 H1 v d) (o : OutOk K B ca W F1 H1 Dn (Out.ofR ρ (stE ρ i (mkSl fr d)) .nx)) : Dn.nx (σ.set i (some v)) H1 := by
  cases q : stE ρ i (mkSl fr d) with
  | exc c => exact absurd q stE_noexc
  | stk => rw [q] at o; exact o.elim
  | ok ρ' =>
    rw [q] at o
    obtain ⟨rfl, hi, hk⟩ := stE_ok q
    have gen : mkSl fr d = .sh d → Dn.nx (σ.set i (some v)) H1 := fun em => by
      rw [em] at o
      obtain ⟨F2, e2, r2⟩ := VD.sh e1 r
      have e3 : ∀ a, F1 a → F2 a ∨ True := fun a _ => .inr trivial
      cases hf : isFr e with
      | false =>
        rw [hf] at r
        exact o.next ((st.mono e1).set hi hk r) (fun _ h => h) Pres.refl
      | true =>
        rw [hf] at r
        cases d with
        | lst ds =>
          obtain ⟨a, xs, rfl, nf, hn, ha, rr⟩ := r
          have st2 := (st.mono (e1.frz hn ha)).set hi hk (.lst (.inl ⟨.inr rfl, ha⟩) (rr.pres Pres.refl fun _ h => .inl h))
          exact o.next st2 (fun _ h => .inl h) Pres.refl
        | _ => exact o.next ((st.mono e1).set hi hk r) (fun _ h => h) Pres.refl
    cases fr with
    | false => exact gen rfl
    | true =>
      have hf := hfr rfl
      cases d with
      | lst ds =>
        rw [hf] at r
        obtain ⟨a, xs, rfl, nf, hn, ha, rr⟩ := r
        exact o.next (st.setOwn hi hk e1 nf hn ha rr) (fun _ h => h) Pres.refl
      | _ => exact gen rfl
theorem sw_false {y : Expr} {x : Str} {xp : Pos} {l : Nat} {env : PySem.Env} (h : ∀ a b c d, y ≠ .ListComp a b c d) (h2 : ∀ a b c d, y ≠ .SetComp a b c d) (h3 : ∀ a b c d e, y ≠ .DictComp a b c d e) (t : Expr) : swapsWith y (some t) l env = pure false := by
  cases y <;> first | rfl | exact absurd rfl (h _ _ _ _) | exact absurd rfl (h2 _ _ _ _) | exact absurd rfl (h3 _ _ _ _ _)
theorem chkE_nc {e : Ex} {y : Expr} (h : chkE T N sc e y = true) : (∀ a b c d, y ≠ .SetComp a b c d) ∧ ∀ a b c d e, y ≠ .DictComp a b c d e := by
  constructor
  · intro a b c d z
    subst z
    cases e <;> cases h
  · intro a b c d f z
    subst z
    cases e <;> cases h
theorem oks_asg {i : Nat} {e : Ex} {fr : Bool} : OkS T N n Φ C ca (.asg i e fr) := by
  intro t sc X W G h B
  cases t <;> try (cases h; done)
  rename_i ts y p
  rcases ts with _ | ⟨t, _ | ⟨t2, ts⟩⟩ <;> try (cases h; done)
  case cons.cons => cases t <;> cases h
  cases t <;> try (cases h; done)
  rename_i x xp
  simp only [chkS, Bool.and_eq_true, decide_eq_true_eq, Bool.or_eq_true, Bool.not_eq_true'] at h
  obtain ⟨⟨⟨h1, h2⟩, h3⟩, h4⟩ := h
  have hfr : fr = true → isFr e = true := fun z => by
    rcases h3 with h3 | h3
    · rw [z] at h3; cases h3
    · exact h3
  obtain ⟨hl, hf⟩ := G.loc h2
  have hN : X.N.Nodup := by rw [G.gx.names]; exact G.gx.nd
  have hi : X.N[i]? = some x := by rw [G.gx.names]; exact h1
  have key : ∀ Dn σ H, tS X.K B ca W (exS Φ C (.asg i e fr)) Dn σ H → tAsg (tG X.K B (wn ca W) (rV X.K (isFr e)) fun ρ => ev Φ C ρ false e) (gName i) Dn σ H := fun Dn σ H ⟨ρ, F, st, o⟩ =>
    (oS_bind (rel := rV X.K (isFr e)) (f := fun ρ => ev Φ C ρ false e) st o).imp fun v H1 ⟨F1, d, e1, st1, r1, o1⟩ => setRes hfr st e1 r1 o1
  have pe := (ok_E (T := T) (N := N) (n := n) (Φ := Φ) (C := C) (ca := ca) e y sc _ X W G.gx h4 B).1
  by_cases hc : ∃ a b c d, y = .ListComp a b c d
  · obtain ⟨elt, gens, scope, cp, rfl⟩ := hc
    cases e <;> try (cases h4; done)
    rename_i e tg s c ws
    rcases gens with _ | ⟨⟨tg', it, ifs, k⟩, _ | ⟨g2, gens⟩⟩ <;> try (cases h4; done)
    have hsw : swapsWith (.ListComp elt [⟨tg', it, ifs, k⟩] scope cp) (some (.Name x xp)) p.line X.env = pure (X.env.blockKind == .function && X.env.kindOf x == some .local && xp.line == cp.line && !(scope.names.any fun q => q.1 == x && (q.2 == .local || q.2 == .cell))) := rfl
    cases hb : (X.env.blockKind == .function && X.env.kindOf x == some .local && xp.line == cp.line && !(scope.names.any fun q => q.1 == x && (q.2 == .local || q.2 == .cell))) with
    | false =>
      rw [hb] at hsw
      exact PS.imp (ps_set hN hi hl pe hsw hf) key
    | true =>
      rw [hb] at hsw
      simp only [Bool.and_eq_true, beq_iff_eq] at hb
      obtain ⟨hk, ⟨own, wi, g, tt, te, g1, g2, g3, g4, g5, g6, g7⟩⟩ := comp_parts (ok_E e) (ok_I s) (ok_O c) G.gx B h4
      subst hk
      exact PS.imp (ps_setLc (own := own) G.gx.calm hN hi hb.1.1.2 hsw g1 g2 g3 g4 g5 g6) fun Dn σ H q => g7 σ H _ (key Dn σ H q)
  · have nc := chkE_nc h4
    exact PS.imp (ps_set hN hi hl pe (sw_false (x := x) (xp := xp) (fun a b c d z => hc ⟨a, b, c, d, z⟩) nc.1 nc.2 _) hf) key
theorem oks_unp {t : Tg} {e : Ex} : OkS T N n Φ C ca (.unp t e) := by
  intro st sc X W G h B
  cases st <;> try (cases h; done)
  rename_i ts y p
  rcases ts with _ | ⟨tx, _ | ⟨t2, ts⟩⟩ <;> try (cases h; done)
  case cons.cons => cases tx <;> cases h
  cases tx <;> try (cases h; done)
  rename_i elts k tp
  simp only [chkS, Bool.and_eq_true] at h
  obtain ⟨⟨h0, h1⟩, h2⟩ := h
  have nc := chkE_nc h2
  have hs : swapsWithSole [.Tuple elts k tp] y p.line X.env = pure false := by
    cases y <;> rfl
  have hw : swappedStores [.Tuple elts k tp] y X.env = pure none := by
    cases y <;> first | rfl | (refine sw_none ?_; rw [G.gx.scope]; exact h0)
  refine PS.imp (ps_asg ((ok_E e).sh G.gx h2 B) (pg_ok (B := B) G.gx h1) hs hw rfl) fun Dn σ H ⟨ρ, F, st, o⟩ => ?_
  refine (oS_bind (rel := rSh X.K) (f := fun ρ => ev Φ C ρ false e) st o).imp fun v H1 ⟨F1, d, e1, st1, r1, o1⟩ => ?_
  cases q : setT t d ρ with
  | exc c => exact absurd q setT_noexc
  | stk => rw [q] at o1; exact o1.elim
  | ok ρ' =>
    rw [q] at o1
    exact ⟨ρ, F1, d, st1, r1, ρ', q, fun σ' st' _ _ => o1.next st' (fun _ h => h) Pres.refl⟩
theorem sw_pair {env : PySem.Env} {x z : Str} {px pz tp p2 : Pos} {k k2 : Nat} {u v : Expr} (hk : env.scope.kind = .function) (hx : env.scope.names.lookup x = some .local) (hz : env.scope.names.lookup z = some .local) (h5 : (px.line == pz.line) = true)
    (h6 : (x == z) = false) (h7 : plainX u = true) (h8 : plainX v = true) (h9 : [u, v].all (foldedForSure 8) = false) (h10 : [u, v].all (constantsAlone 8) = false) :
    swappedStores [.Tuple [.Name x px, .Name z pz] k tp] (.Tuple [u, v] k2 p2) env = pure (some [x, z]) := by
  have hbk : env.blockKind = .function := by unfold PySem.Env.blockKind; rw [hk]; rfl
  have kx : env.kindOf x = some .local := hx
  have kz : env.kindOf z = some .local := hz
  have ns : ([u, v].any fun | .Starred .. => true | _ => false) = false := by
    cases u <;> (try (cases h7; done)) <;> cases v <;> first | rfl | cases h8
  have e5 : (pz.line == px.line) = true := by
    have := beq_iff_eq.mp h5
    rw [this]; simp
  have exz : (z == x) = false := by
    simp only [beq_eq_false_iff_ne] at h6 ⊢
    exact fun e => h6 e.symm
  have ed : ([x, z] : List Str).eraseDups = [x, z] := by
    simp [List.eraseDups, List.eraseDupsBy, List.eraseDupsBy.loop, exz]
  unfold swappedStores
  simp only [List.length_cons, List.length_nil, hbk, ns, kx, kz, List.filterMap_cons, List.filterMap_nil, List.head?_cons, Option.map_some, Option.getD_some, Expr.pos, e5, h9, h10]
  simp [ed]
  intro w
  rcases w with w | w
  · cases u <;> first | (cases w; done) | cases h7
  · cases v <;> first | (cases w; done) | cases h8
theorem oks_par {i j : Nat} {a b : Ex} : OkS T N n Φ C ca (.par i j a b) := by
  intro st sc X W G h B
  have h : (match parM st with
    | some m => decide (N[i]? = some m.x) && decide (N[j]? = some m.y) && parB sc m.x m.y m.px m.py m.u m.v && chkE T N sc a m.u && chkE T N sc b m.v
    | none => false) = true := by cases st <;> exact h
  cases q : parM st with
  | none => rw [q] at h; cases h
  | some m =>
  rw [q] at h
  rw [parM_eq q]
  obtain ⟨x, px, z, pz, k, tp, u, v, k2, p2, p⟩ := m
  simp only [Bool.and_eq_true, decide_eq_true_eq, parB, Bool.not_eq_true'] at h
  obtain ⟨⟨⟨⟨h1, h2⟩, ⟨⟨⟨⟨⟨⟨⟨h3, h4⟩, h5⟩, h6⟩, h7⟩, h8⟩, h9⟩, h10⟩⟩, h11⟩, h12⟩ := h
  have hN : X.N.Nodup := by rw [G.gx.names]; exact G.gx.nd
  have hij : i ≠ j := fun e => by
    rw [e, h2] at h1
    have e2 : z = x := Option.some.inj h1
    rw [e2] at h6; simp at h6
  have hx : X.env.scope.names.lookup x = some .local := by rw [G.gx.scope]; exact h3
  have hz : X.env.scope.names.lookup z = some .local := by rw [G.gx.scope]; exact h4
  have hs : swapsWithSole [.Tuple [.Name x px, .Name z pz] k tp] (.Tuple [u, v] k2 p2) p.line X.env = pure false := rfl
  refine PS.imp (ps_par G.gx.calm hN (by rw [G.gx.names]; exact h1) (by rw [G.gx.names]; exact h2) hij hx hz (pa_cons' h7 ((ok_E a).sh G.gx h11 B) (pa_cons' h8 ((ok_E b).sh G.gx h12 B) pa_nil)) (sw_pair G.fkind hx hz h5 h6 h7 h8 h9 h10) hs) fun Dn σ H ⟨ρ, F, st, o⟩ => ?_
  refine (oS_bind (rel := rSh X.K) (f := fun ρ => ev Φ C ρ false a) st o).imp fun v1 H1 ⟨F1, d1, e1, st1, r1, o1⟩ => ?_
  refine (oS_bind (rel := rSh X.K) (f := fun ρ => ev Φ C ρ false b) st1 o1).imp fun v2 H2 ⟨F2, d2, e2, st2, r2, o2⟩ => ?_
  cases q : stE ρ i (.sh d1) with
  | exc c => exact absurd q stE_noexc
  | stk => rw [q] at o2; exact o2.elim
  | ok ρ1 =>
    rw [q] at o2
    cases q2 : stE ρ1 j (.sh d2) with
    | exc c => exact absurd q2 stE_noexc
    | stk => simp only [R.bind_ok, q2] at o2; exact o2.elim
    | ok ρ2 =>
      simp only [R.bind_ok, q2] at o2
      obtain ⟨rfl, hi, hk⟩ := stE_ok q
      obtain ⟨rfl, hi2, hk2⟩ := stE_ok q2
      exact ⟨v1, v2, rfl, o2.next ((st2.set hi hk (r1.ext e2)).set hi2 hk2 r2) (fun _ h => h) Pres.refl⟩
theorem sw_three {env : PySem.Env} {x y z : Str} {px py pz tp p2 : Pos} {k k2 : Nat} {u v w : Expr} (hk : env.scope.kind = .function) (hx : env.scope.names.lookup x = some .local) (hy : env.scope.names.lookup y = some .local) (hz : env.scope.names.lookup z = some .local)
    (h1 : (px.line == py.line) = true) (h2 : (px.line == pz.line) = true) (h3 : (x == y) = false) (h4 : (x == z) = false) (h5 : (y == z) = false) (h7 : plainX u = true) (h8 : plainX v = true) (h9 : plainX w = true)
    (ha : [u, v, w].all (foldedForSure 8) = false) (hb : [u, v, w].all (constantsAlone 8) = false) : swappedStores [.Tuple [.Name x px, .Name y py, .Name z pz] k tp] (.Tuple [u, v, w] k2 p2) env = pure (some [x, y, z]) := by
  have hbk : env.blockKind = .function := by unfold PySem.Env.blockKind; rw [hk]; rfl
  have kx : env.kindOf x = some .local := hx
  have ky : env.kindOf y = some .local := hy
  have kz : env.kindOf z = some .local := hz
  have st : ∀ {e : Expr}, plainX e = true → (match e with | .Starred .. => true | _ => false) = false := fun {e} h => by cases e <;> first | rfl | cases h
  have ns : ([u, v, w].any fun | .Starred .. => true | _ => false) = false := by
    simp only [List.any_cons, List.any_nil, Bool.or_false, Bool.or_eq_false_iff]
    exact ⟨st h7, st h8, st h9⟩
  have e1 : (py.line == px.line) = true := by rw [beq_iff_eq] at h1 ⊢; exact h1.symm
  have e2 : (pz.line == px.line) = true := by rw [beq_iff_eq] at h2 ⊢; exact h2.symm
  have sy : ∀ {a b : Str}, (a == b) = false → (b == a) = false := fun {a b} h => by
    simp only [beq_eq_false_iff_ne] at h ⊢
    exact fun e => h e.symm
  have ed : ([x, y, z] : List Str).eraseDups = [x, y, z] := by
    simp [List.eraseDups, List.eraseDupsBy, List.eraseDupsBy.loop, sy h3, sy h4, sy h5]
  unfold swappedStores
  simp only [List.length_cons, List.length_nil, hbk, ns, kx, ky, kz, List.filterMap_cons, List.filterMap_nil, List.head?_cons, Option.map_some, Option.getD_some, Expr.pos, e1, e2, ha, hb]
  simp [ed]
  intro q
  rcases q with q | q | q
  · cases u <;> first | (cases q; done) | cases h7
  · cases v <;> first | (cases q; done) | cases h8
  · cases w <;> first | (cases q; done) | cases h9
theorem oks_par3 {i j l : Nat} {a b c : Ex} : OkS T N n Φ C ca (.par3 i j l a b c) := by
  intro st sc X W G h B
  have h : (match par3M st with
    | some m => decide (N[i]? = some m.x) && decide (N[j]? = some m.y) && decide (N[l]? = some m.z) && par3B sc m.x m.y m.z m.px m.py m.pz m.u m.v m.w && chkE T N sc a m.u && chkE T N sc b m.v && chkE T N sc c m.w
    | none => false) = true := by cases st <;> exact h
  cases q : par3M st with
  | none => rw [q] at h; cases h
  | some m =>
  rw [q] at h
  rw [par3M_eq q]
  obtain ⟨x, px, y, py, z, pz, k, tp, u, v, w, k2, p2, p⟩ := m
  simp only [Bool.and_eq_true, decide_eq_true_eq, par3B, Bool.not_eq_true'] at h
  obtain ⟨⟨⟨⟨⟨⟨g1, g2⟩, g3⟩, ⟨⟨⟨⟨⟨⟨⟨⟨⟨⟨⟨⟨a1, a2⟩, a3⟩, a4⟩, a5⟩, a6⟩, a7⟩, a8⟩, a9⟩, a10⟩, a11⟩, a12⟩, a13⟩⟩, g4⟩, g5⟩, g6⟩ := h
  have hN : X.N.Nodup := by rw [G.gx.names]; exact G.gx.nd
  have ne : ∀ {i j : Nat} {x y : Str}, N[i]? = some x → N[j]? = some y → (x == y) = false → i ≠ j := fun {i j x y} h1 h2 h3 e => by
    rw [e, h2] at h1
    have e2 : y = x := Option.some.inj h1
    rw [e2] at h3; simp at h3
  have hx : X.env.scope.names.lookup x = some .local := by rw [G.gx.scope]; exact a1
  have hy : X.env.scope.names.lookup y = some .local := by rw [G.gx.scope]; exact a2
  have hz : X.env.scope.names.lookup z = some .local := by rw [G.gx.scope]; exact a3
  have hs : swapsWithSole [.Tuple [.Name x px, .Name y py, .Name z pz] k tp] (.Tuple [u, v, w] k2 p2) p.line X.env = pure false := rfl
  refine PS.imp (ps_par3 G.gx.calm hN (by rw [G.gx.names]; exact g1) (by rw [G.gx.names]; exact g2) (by rw [G.gx.names]; exact g3) (ne g1 g2 a6) (ne g1 g3 a7) (ne g2 g3 a8) hx hy hz
    (pa_cons' a9 ((ok_E a).sh G.gx g4 B) (pa_cons' a10 ((ok_E b).sh G.gx g5 B) (pa_cons' a11 ((ok_E c).sh G.gx g6 B) pa_nil))) (sw_three G.fkind hx hy hz a4 a5 a6 a7 a8 a9 a10 a11 a12 a13) hs) fun Dn σ H ⟨ρ, F, st, o⟩ => ?_
  refine (oS_bind (rel := rSh X.K) (f := fun ρ => ev Φ C ρ false a) st o).imp fun v1 H1 ⟨F1, d1, e1, st1, r1, o1⟩ => ?_
  refine (oS_bind (rel := rSh X.K) (f := fun ρ => ev Φ C ρ false b) st1 o1).imp fun v2 H2 ⟨F2, d2, e2, st2, r2, o2⟩ => ?_
  refine (oS_bind (rel := rSh X.K) (f := fun ρ => ev Φ C ρ false c) st2 o2).imp fun v3 H3 ⟨F3, d3, e3, st3, r3, o3⟩ => ?_
  cases q : stE ρ i (.sh d1) with
  | exc c => exact absurd q stE_noexc
  | stk => rw [q] at o3; exact o3.elim
  | ok ρ1 =>
    rw [q] at o3
    simp only [R.bind_ok] at o3
    cases q2 : stE ρ1 j (.sh d2) with
    | exc c => exact absurd q2 stE_noexc
    | stk => rw [q2] at o3; exact o3.elim
    | ok ρ2 =>
      rw [q2] at o3
      simp only [R.bind_ok] at o3
      cases q3 : stE ρ2 l (.sh d3) with
      | exc c => exact absurd q3 stE_noexc
      | stk => rw [q3] at o3; exact o3.elim
      | ok ρ3 =>
        rw [q3] at o3
        obtain ⟨rfl, hi, hk⟩ := stE_ok q
        obtain ⟨rfl, hi2, hk2⟩ := stE_ok q2
        obtain ⟨rfl, hi3, hk3⟩ := stE_ok q3
        exact ⟨v1, v2, v3, rfl, o3.next (((st3.set hi hk ((r1.ext e2).ext e3)).set hi2 hk2 (r2.ext e3)).set hi3 hk3 r3) (fun _ h => h) Pres.refl⟩
/-! two, three names at once, lists of one's own among them -/
theorem pe_fr {e : Ex} {x : Expr} {f : Bool} (G : GX T N n Φ C ca sc (fun _ => true) X W) (h : chkE T N sc e x = true) (hf : (!f || isFr e) = true) (B : Bs) : PE X x (tG X.K B (wn ca W) (rV X.K f) fun ρ => ev Φ C ρ false e) := by
  cases f with
  | false => exact (ok_E e).sh G h B
  | true =>
    have hf : isFr e = true := by simpa using hf
    have := (ok_E (T := T) (N := N) (n := n) (Φ := Φ) (C := C) (ca := ca) e x sc _ X W G h B).1
    rw [hf] at this
    exact this
theorem st_mk {K : PySem.W.Frag} {F F1 : Addr → Prop} {H H1 : Hp} {σ : L2.St} {ρ ρ' : Env} {v : V} {d : D} {i : Nat} {f : Bool} (st : StOk K B σ ρ F H) (e1 : Ext F F1 H H1) (r : VD K f H F1 H1 v d) (q : stE ρ i (mkSl f d) = .ok ρ') : StOk K B (σ.set i (some v)) ρ' F1 H1 := by
  obtain ⟨rfl, hi, hk⟩ := stE_ok q
  cases f with
  | false =>
    have e : mkSl false d = .sh d := by cases d <;> rfl
    rw [e]
    exact (st.mono e1).set hi hk r
  | true =>
    cases d with
    | lst ds =>
      obtain ⟨a, xs, rfl, nf, hn, ha, rr⟩ := r
      exact st.setOwn hi hk e1 nf hn ha rr
    | _ => exact (st.mono e1).set hi hk r
theorem oks_parO {i j : Nat} {a b : Ex} {f g : Bool} : OkS T N n Φ C ca (.parO i j a b f g) := by
  intro st sc X W G h B
  have h : (match parM st with
    | some m => (!f || isFr a) && (!g || isFr b) && (decide (N[i]? = some m.x) && decide (N[j]? = some m.y) && parB sc m.x m.y m.px m.py m.u m.v && chkE T N sc a m.u && chkE T N sc b m.v)
    | none => false) = true := by cases st <;> exact h
  cases q : parM st with
  | none => rw [q] at h; cases h
  | some m =>
  rw [q] at h
  rw [parM_eq q]
  obtain ⟨x, px, z, pz, k, tp, u, v, k2, p2, p⟩ := m
  rw [Bool.and_eq_true, Bool.and_eq_true] at h
  obtain ⟨⟨fa, fb⟩, h⟩ := h
  simp only [Bool.and_eq_true, decide_eq_true_eq, parB, Bool.not_eq_true'] at h
  obtain ⟨⟨⟨⟨h1, h2⟩, ⟨⟨⟨⟨⟨⟨⟨h3, h4⟩, h5⟩, h6⟩, h7⟩, h8⟩, h9⟩, h10⟩⟩, h11⟩, h12⟩ := h
  have hN : X.N.Nodup := by rw [G.gx.names]; exact G.gx.nd
  have hij : i ≠ j := fun e => by
    rw [e, h2] at h1
    have e2 : z = x := Option.some.inj h1
    rw [e2] at h6; simp at h6
  have hx : X.env.scope.names.lookup x = some .local := by rw [G.gx.scope]; exact h3
  have hz : X.env.scope.names.lookup z = some .local := by rw [G.gx.scope]; exact h4
  refine PS.imp (ps_par G.gx.calm hN (by rw [G.gx.names]; exact h1) (by rw [G.gx.names]; exact h2) hij hx hz (pa_cons' h7 (pe_fr G.gx h11 fa B) (pa_cons' h8 (pe_fr G.gx h12 fb B) pa_nil)) (sw_pair G.fkind hx hz h5 h6 h7 h8 h9 h10) rfl) fun Dn σ H ⟨ρ, F, st, o⟩ => ?_
  refine (oS_bind (rel := rV X.K f) (f := fun ρ => ev Φ C ρ false a) st o).imp fun v1 H1 ⟨F1, d1, e1, st1, r1, o1⟩ => ?_
  refine (oS_bind (rel := rV X.K g) (f := fun ρ => ev Φ C ρ false b) st1 o1).imp fun v2 H2 ⟨F2, d2, e2, st2, r2, o2⟩ => ?_
  cases q : stE ρ i (mkSl f d1) with
  | exc c => exact absurd q stE_noexc
  | stk => rw [q] at o2; exact o2.elim
  | ok ρ1 =>
    rw [q] at o2
    cases q2 : stE ρ1 j (mkSl g d2) with
    | exc c => exact absurd q2 stE_noexc
    | stk => simp only [R.bind_ok, q2] at o2; exact o2.elim
    | ok ρ2 =>
      simp only [R.bind_ok, q2] at o2
      exact ⟨v1, v2, rfl, o2.next (st_mk (st_mk st e1 r1 q) e2 r2 q2) (fun _ h => h) Pres.refl⟩
theorem oks_par3O {i j l : Nat} {a b c : Ex} {f g t : Bool} : OkS T N n Φ C ca (.par3O i j l a b c f g t) := by
  intro st sc X W G h B
  have h : (match par3M st with
    | some m => (!f || isFr a) && (!g || isFr b) && (!t || isFr c) && (decide (N[i]? = some m.x) && decide (N[j]? = some m.y) && decide (N[l]? = some m.z) && par3B sc m.x m.y m.z m.px m.py m.pz m.u m.v m.w && chkE T N sc a m.u && chkE T N sc b m.v && chkE T N sc c m.w)
    | none => false) = true := by cases st <;> exact h
  cases q : par3M st with
  | none => rw [q] at h; cases h
  | some m =>
  rw [q] at h
  rw [par3M_eq q]
  obtain ⟨x, px, y, py, z, pz, k, tp, u, v, w, k2, p2, p⟩ := m
  rw [Bool.and_eq_true, Bool.and_eq_true, Bool.and_eq_true] at h
  obtain ⟨⟨⟨fa, fb⟩, fc⟩, h⟩ := h
  simp only [Bool.and_eq_true, decide_eq_true_eq, par3B, Bool.not_eq_true'] at h
  obtain ⟨⟨⟨⟨⟨⟨g1, g2⟩, g3⟩, ⟨⟨⟨⟨⟨⟨⟨⟨⟨⟨⟨⟨a1, a2⟩, a3⟩, a4⟩, a5⟩, a6⟩, a7⟩, a8⟩, a9⟩, a10⟩, a11⟩, a12⟩, a13⟩⟩, g4⟩, g5⟩, g6⟩ := h
  have hN : X.N.Nodup := by rw [G.gx.names]; exact G.gx.nd
  have ne : ∀ {i j : Nat} {x y : Str}, N[i]? = some x → N[j]? = some y → (x == y) = false → i ≠ j := fun {i j x y} h1 h2 h3 e => by
    rw [e, h2] at h1
    have e2 : y = x := Option.some.inj h1
    rw [e2] at h3; simp at h3
  have hx : X.env.scope.names.lookup x = some .local := by rw [G.gx.scope]; exact a1
  have hy : X.env.scope.names.lookup y = some .local := by rw [G.gx.scope]; exact a2
  have hz : X.env.scope.names.lookup z = some .local := by rw [G.gx.scope]; exact a3
  refine PS.imp (ps_par3 G.gx.calm hN (by rw [G.gx.names]; exact g1) (by rw [G.gx.names]; exact g2) (by rw [G.gx.names]; exact g3) (ne g1 g2 a6) (ne g1 g3 a7) (ne g2 g3 a8) hx hy hz
    (pa_cons' a9 (pe_fr G.gx g4 fa B) (pa_cons' a10 (pe_fr G.gx g5 fb B) (pa_cons' a11 (pe_fr G.gx g6 fc B) pa_nil))) (sw_three G.fkind hx hy hz a4 a5 a6 a7 a8 a9 a10 a11 a12 a13) rfl) fun Dn σ H ⟨ρ, F, st, o⟩ => ?_
  refine (oS_bind (rel := rV X.K f) (f := fun ρ => ev Φ C ρ false a) st o).imp fun v1 H1 ⟨F1, d1, e1, st1, r1, o1⟩ => ?_
  refine (oS_bind (rel := rV X.K g) (f := fun ρ => ev Φ C ρ false b) st1 o1).imp fun v2 H2 ⟨F2, d2, e2, st2, r2, o2⟩ => ?_
  refine (oS_bind (rel := rV X.K t) (f := fun ρ => ev Φ C ρ false c) st2 o2).imp fun v3 H3 ⟨F3, d3, e3, st3, r3, o3⟩ => ?_
  cases q : stE ρ i (mkSl f d1) with
  | exc c => exact absurd q stE_noexc
  | stk => rw [q] at o3; exact o3.elim
  | ok ρ1 =>
    rw [q] at o3
    simp only [R.bind_ok] at o3
    cases q2 : stE ρ1 j (mkSl g d2) with
    | exc c => exact absurd q2 stE_noexc
    | stk => rw [q2] at o3; exact o3.elim
    | ok ρ2 =>
      rw [q2] at o3
      simp only [R.bind_ok] at o3
      cases q3 : stE ρ2 l (mkSl t d3) with
      | exc c => exact absurd q3 stE_noexc
      | stk => rw [q3] at o3; exact o3.elim
      | ok ρ3 =>
        rw [q3] at o3
        exact ⟨v1, v2, v3, rfl, o3.next (st_mk (st_mk (st_mk st e1 r1 q) e2 r2 q2) e3 r3 q3) (fun _ h => h) Pres.refl⟩
end
end Rv
/-! Statements: stores into own lists, loops, raise; all statements. -/
namespace Rv
open PySem PySem.Spec PyProof.Rows L2
section
variable {K : PySem.W.Frag} {B : Bs} {F : Addr → Prop} {H : Hp} {σ : L2.St} {ρ : Env}
/-- an own thing changes -/
theorem StOk.mutG {i : Nat} {a : Addr} {d e : D} {o' : HO} (st : StOk K B σ ρ F H) (ho : ρ[i]? = some (.own d)) (hs : σ[i]? = some (some (.ref a))) (hb : B.H a = none) (pr : Pres F H (upd H a o')) (new : SlOk K B.H F (upd H a o') (some (some (.ref a))) (.own e)) :
    StOk K B σ (ρ.set i (.own e)) F (upd H a o') := by
  refine ⟨by rw [List.length_set]; exact st.len, ⟨fun x o q => ?_, st.ext.sub, fun x f => ?_⟩, fun x f => ?_, st.dom0, fun j s q => ?_, fun j k dj dk e1 e2 hjk => ?_, fun j v q => ?_⟩
  · rw [upd_ne (ne_of_none q hb)]
    exact st.ext.keep x o q
  · rcases st.ext.new x f with z | ⟨z, o, w⟩
    · exact .inl z
    · refine .inr ⟨z, ?_⟩
      by_cases q : x = a
      · subst q; exact ⟨o', upd_same⟩
      · exact ⟨o, by rw [upd_ne q]; exact w⟩
  · by_cases q : x = a
    · subst q; exact ⟨o', upd_same⟩
    · obtain ⟨o, w⟩ := st.dom x f
      exact ⟨o, by rw [upd_ne q]; exact w⟩
  · rcases get_set q with ⟨rfl, rfl⟩ | ⟨h1, h2⟩
    · rw [hs]; exact new
    · have q := st.sl j s h2
      have off : ∀ {b : Addr} {dj : D}, s = .own dj → σ[j]? = some (some (.ref b)) → b ≠ a := fun {b dj} e0 e1 z => by
        subst z e0
        exact st.dis j i _ _ h2 ho h1 (by rw [e1, hs])
      cases s with
      | un => trivial
      | lk => trivial
      | sh d => obtain ⟨x, e1, r1⟩ := q; exact ⟨x, e1, r1.pres pr fun _ h => h⟩
      | own d =>
        cases d <;> try exact q
        · obtain ⟨b, zs, e1, n1, n2, e2, r1⟩ := q
          exact ⟨b, zs, e1, n1, n2, by rw [upd_ne (off rfl e1)]; exact e2, r1.pres pr fun _ h => h⟩
        · obtain ⟨b, zs, e1, n1, n2, e2, r1⟩ := q
          exact ⟨b, zs, e1, n1, n2, by rw [upd_ne (off rfl e1)]; exact e2, r1.pres pr fun _ h => h⟩
        · obtain ⟨b, zs, e1, n1, n2, e2, r1⟩ := q
          exact ⟨b, zs, e1, n1, n2, by rw [upd_ne (off rfl e1)]; exact e2, r1.pres pr fun _ h => h⟩
  · have up : ∀ {k : Nat} {dk : D}, (ρ.set i (.own e))[k]? = some (.own dk) → ∃ dk', ρ[k]? = some (.own dk') := fun {k dk} e => by
      rcases get_set e with ⟨rfl, _⟩ | ⟨_, h2⟩
      · exact ⟨_, ho⟩
      · exact ⟨_, h2⟩
    obtain ⟨_, h1⟩ := up e1
    obtain ⟨_, h2⟩ := up e2
    exact st.dis j k _ _ h1 h2 hjk
  · obtain ⟨h1, h2⟩ := st.lkd j v q
    have ne : j ≠ i := fun z => by subst z; rw [ho] at h1; cases h1
    exact ⟨by rw [List.getElem?_set_ne (Ne.symm ne)]; exact h1, h2⟩
/-- an own list changes -/
theorem StOk.mut {i : Nat} {a : Addr} {xs ys : List V} {ds es : List D} (st : StOk K B σ ρ F H) (ho : ρ[i]? = some (.own (.lst ds))) (hs : σ[i]? = some (some (.ref a))) (nf : ¬ F a) (hb : B.H a = none) (ha : H a = some (.lst xs)) (r : Reps K F H ys es) :
    StOk K B σ (ρ.set i (.own (.lst es))) F (upd H a (.lst ys)) ∧ Pres F H (upd H a (.lst ys)) := by
  have pr : Pres F H (upd H a (.lst ys)) := pres_mut nf ha
  exact ⟨st.mutG ho hs hb pr ⟨a, ys, rfl, nf, hb, upd_same, r.pres pr fun _ h => h⟩, pr⟩
/-- an own dict changes -/
theorem pres_dic {p : Addr} {t : D} {o : HO} (nf : ¬ F p) (h : DicAt K F H p t) : Pres F H (upd H p o) := by
  have no : ∀ u, H p = some u → (∃ x, u = .dK x) ∨ ∃ x, u = .dT x := fun u e => by
    cases h with
    | k h _ => rw [h] at e; cases e; exact .inl ⟨_, rfl⟩
    | t h _ => rw [h] at e; cases e; exact .inr ⟨_, rfl⟩
  refine ⟨fun a ys f e => ?_, fun a ob u e => ?_, fun a ys e => ?_⟩
  · rw [upd_ne (fun z => by rw [z] at f; exact nf f)]; exact e
  · rw [upd_ne (fun z => by
      rw [z] at e
      rcases no _ e with ⟨x, w⟩ | ⟨x, w⟩ <;> cases w)]
    exact e
  · rw [upd_ne (fun z => by
      rw [z] at e
      rcases no _ e with ⟨x, w⟩ | ⟨x, w⟩ <;> cases w)]
    exact e
end
section
variable {T : Tab} {N : List Str} {n : Nat} {Φ : Nat → List D → R D} {C : Nat → D} {ca : Nat → Addr} {sc : Scope} {X : Cx} {W : WX} {B : Bs}
/-- op= of two ints -/
def rIp (o : Bo) : TIp := fun x y H Q => ∃ a b z, x = .int a ∧ y = .int b ∧ bin o (.int a) (.int b) = .ok (.int z) ∧ Q (.int z) H
theorem bin_int {o : Bo} {a b : Int} {d : D} (h : bin o (.int a) (.int b) = .ok d) : ∃ z, d = .int z := by
  cases o <;> simp only [bin] at h <;> first | (cases h; exact ⟨_, rfl⟩) | (split at h <;> cases h; exact ⟨_, rfl⟩)
theorem ip_bin {o : Bo} (ho : o = .add ∨ o = .sub ∨ o = .mul ∨ o = .fdv) : PIp X (opOf o) (rIp o) := by
  intro pins s σ H x y v u Q I rx ry ⟨a, b, z, ex, ey, ez, q⟩
  subst ex ey
  obtain ⟨t, rfl⟩ := rx
  obtain ⟨t', rfl⟩ := ry
  rcases ho with rfl | rfl | rfl | rfl
  · cases ez
    exact iadd_int ⟨.int _, H, I.tok _, ⟨_, rfl⟩, q⟩
  · cases ez
    exact isub_int ⟨.int _, H, I.tok _, ⟨_, rfl⟩, q⟩
  · simp only [bin] at ez
    split at ez
    · rename_i hm
      cases ez
      exact imul_int ⟨.int _, H, I.tok _, ⟨_, rfl⟩, q⟩ hm.ok
    · cases ez
  · simp only [bin] at ez
    split at ez
    · rename_i hm
      cases ez
      exact ifloordiv_int hm.1 ⟨.int _, H, I.tok _, ⟨_, rfl⟩, q⟩ (.inl (PyProof.noPylong_of_log2 hm.2))
    · cases ez
theorem augV_ok {o : Bo} {x y z : D} (h : augV o x y = .ok z) : ∃ a b c, x = .int a ∧ y = .int b ∧ z = .int c ∧ bin o (.int a) (.int b) = .ok (.int c) := by
  cases x <;> try (cases h; done)
  cases y <;> try (cases h; done)
  rename_i a b
  obtain ⟨c, rfl⟩ := bin_int (show bin o (.int a) (.int b) = .ok z from h)
  exact ⟨a, b, c, rfl, rfl, rfl, h⟩
theorem augV_noexc {o : Bo} {x y : D} {c : Nat} : augV o x y ≠ .exc c := by
  intro h
  cases x <;> try (cases h; done)
  cases y <;> try (cases h; done)
  exact bin_noexc h
theorem rep_int {K : PySem.W.Frag} {F : Addr → Prop} {H : Hp} {v : V} {a : Int} (r : Rep K F H v (.int a)) : v = .int a := by cases r; rfl
theorem oks_aug {i : Nat} {o : Bo} {e : Ex} : OkS T N n Φ C ca (.aug i o e) := by
  intro t sc X W G h B
  cases t <;> try (cases h; done)
  rename_i tx p y ps
  cases tx <;> try (cases h; done)
  rename_i x xp
  simp only [chkS, Bool.and_eq_true, decide_eq_true_eq] at h
  obtain ⟨⟨⟨⟨h1, h2⟩, h3⟩, h4⟩, h5⟩ := h
  have e := of_decide_eq_true h3
  subst e
  obtain ⟨hl, hf⟩ := G.loc h2
  refine PS.imp (ps_aug (by rw [G.gx.names]; exact G.gx.nd) (by rw [G.gx.names]; exact h1) hl ((ok_E e).sh G.gx h5 B) (ip_bin h4) hf) fun Dn σ H ⟨ρ, F, st, ou⟩ => ?_
  dsimp only [exS, shV] at ou
  split at ou
  · rename_i d q
    obtain ⟨v, e1, r⟩ := st.sl i _ q
    refine ⟨v, e1, (oS_bind (rel := rSh X.K) (f := fun ρ => ev Φ C ρ false e) st ou).imp fun v2 H1 ⟨F1, d2, e2, st1, r2, o1⟩ => ?_⟩
    cases q2 : augV o d d2 with
    | exc c => exact absurd q2 augV_noexc
    | stk => rw [q2] at o1; exact o1.elim
    | ok z =>
      rw [q2] at o1
      obtain ⟨a, b, c, rfl, rfl, rfl, hb⟩ := augV_ok q2
      refine ⟨a, b, c, rep_int r, rep_int r2, hb, o1.next (st1.set (List.getElem?_eq_some_iff.mp q).1 (fun z => by rw [q] at z; cases z) (.int c)) (fun _ h => h) Pres.refl⟩
  · exact ou.elim
theorem ownL_ok {K : PySem.W.Frag} {F : Addr → Prop} {H : Hp} {Dn : Ends} {ρ : Env} {i : Nat} {f : List D → Out} (o : OutOk K B ca W F H Dn (ownL ρ i f)) : ∃ l, ρ[i]? = some (.own (.lst l)) ∧ OutOk K B ca W F H Dn (f l) := by
  unfold ownL at o
  split at o
  · exact ⟨_, ‹_›, o⟩
  · exact o.elim
theorem pe_own {i : Nat} {x : Str} {xp : Pos} (G : GD T N n Φ C ca sc X W) (h : chkE T N sc (.var i) (.Name x xp) = true) : PE X (.Name x xp) (tVar i) := by
  simp only [chkE, Bool.and_eq_true, decide_eq_true_eq] at h
  obtain ⟨⟨h1, h2⟩, h3⟩ := h
  exact pe_var (by rw [G.gx.names]; exact h1) (G.gx.vis h2) (okN_dbg h3) (okN_cd h3)
theorem oks_app {i : Nat} {e : Ex} : OkS T N n Φ C ca (.app i e) := by
  intro t sc X W G h B
  have h : (match appM t with
    | some m => decide (m.m = Str.ofString "append") && (m.ap.endLine == m.cp.line) && chkE T N sc (.var i) (.Name m.x m.xp) && plainX m.y && chkE T N sc e m.y
    | none => false) = true := by cases t <;> exact h
  cases q : appM t with
  | none => rw [q] at h; cases h
  | some m =>
  rw [q] at h
  rw [appM_eq q]
  obtain ⟨x, xp, m, ap, y, cp, p⟩ := m
  simp only [Bool.and_eq_true, decide_eq_true_eq] at h
  obtain ⟨⟨⟨⟨h1, h2⟩, h3⟩, h4⟩, h5⟩ := h
  subst h1
  have hs : starEach [y] X.env = (false, eval y X.env) :: starEach [] X.env := star_cons h4 [] X.env
  refine PS.imp (ps_expr (pe_bm PySem.F.plainAttrs_list PySem.F.slot_list_append PySem.F.type_list_append mt_append (pe_own G h3) (pa_cons' h4 ((ok_E e).sh G.gx h5 B) pa_nil) rfl (by rw [hs]; rfl) h2 hs rfl) rfl) fun Dn σ H ⟨ρ, F, st, o⟩ => ?_
  obtain ⟨l, q2, o1⟩ := ownL_ok o
  obtain ⟨a, xs, hσ, nf, hb, ha, rr⟩ := st.own_at q2
  refine ⟨_, hσ, .inl ⟨rfl, xs, .inl (.inl ha)⟩, ?_⟩
  refine (oS_bind (rel := rSh X.K) (f := fun ρ => ev Φ C ρ false e) st o1).imp fun v H1 ⟨F1, d, e1, st1, r1, o2⟩ => ?_
  split at o2
  · rename_i hl
    have ha1 := e1.keep _ _ ha
    have nf1 : ¬ F1 a := fun z => by
      rcases e1.new a z with z | ⟨z, _⟩
      · exact nf z
      · rw [z] at ha; cases ha
    obtain ⟨s2, p2⟩ := st1.mut q2 hσ nf1 hb ha1 ((rr.ext e1).append (.cons r1 .nil))
    exact ⟨a, xs, v, rfl, rfl, ha1, ll_lt (by rw [rr.length]; exact hl), o2.next s2 (fun _ h => h) p2⟩
  · exact o2.elim
theorem ixV_ok {n' j : Nat} {d : D} (h : ixV n' d = .ok j) : ∃ i, d = .int i ∧ ixN n' i = some j := by
  cases d <;> try (cases h; done)
  rename_i i
  simp only [ixV] at h
  split at h
  · cases h; exact ⟨i, rfl, ‹_›⟩
  · cases h
theorem ixV_noexc {n' c : Nat} {d : D} : ixV n' d ≠ .exc c := by
  intro h
  cases d <;> try (cases h; done)
  simp only [ixV] at h
  split at h <;> cases h
theorem assign_sub {x : Expr} {z : Expr} {p : Pos} {env : PySem.Env} (hz : plainX z = true) : ∀ v, PySem.assign (.Subscript x z p) env v = (do
    let ov ← holding [v] (eval x env)
    let iv ← holding [v, ov] (eval z env)
    standAt p
    holding [v, ov, iv] (setItem ov iv v)
    release [v, ov, iv] []) := by
  intro v
  cases z <;> first | rfl | cases hz
theorem oks_setI {i : Nat} {k e : Ex} : OkS T N n Φ C ca (.setI i k e) := by
  intro t sc X W G h B
  have h : (match setM t with
    | some m => chkE T N sc (.var i) (.Name m.x m.xp) && plainX m.z && chkE T N sc k m.z && chkE T N sc e m.y
    | none => false) = true := by cases t <;> exact h
  cases q : setM t with
  | none => rw [q] at h; cases h
  | some m =>
  rw [q] at h
  rw [setM_eq q]
  obtain ⟨x, xp, z, zp, y, p⟩ := m
  simp only [Bool.and_eq_true] at h
  obtain ⟨⟨⟨h1, h2⟩, h3⟩, h4⟩ := h
  have hs : swapsWithSole [.Subscript (.Name x xp) z zp] y p.line X.env = pure false := by cases y <;> rfl
  have hw : swappedStores [.Subscript (.Name x xp) z zp] y X.env = pure none := by cases y <;> rfl
  refine PS.imp (ps_asg ((ok_E e).sh G.gx h4 B) (pg_sub (pe_own G h1) ((ok_E k).sh G.gx h3 B) set_list (assign_sub h2)) hs hw rfl) fun Dn σ H ⟨ρ, F, st, o⟩ => ?_
  obtain ⟨l, q2, o⟩ := ownL_ok o
  obtain ⟨a, xs, hσ, nf, hb, ha, rr⟩ := st.own_at q2
  refine (oS_bind (rel := rSh X.K) (f := fun ρ => ev Φ C ρ false e) st o).imp fun v H1 ⟨F1, d, e1, st1, r1, o1⟩ => ?_
  refine ⟨_, hσ, ?_⟩
  refine (oS_bind (rel := rSh X.K) (f := fun ρ => ev Φ C ρ false k) st1 o1).imp fun kv H2 ⟨F2, kd, e2, st2, r2, o2⟩ => ?_
  cases q3 : ixV l.length kd with
  | exc c => exact absurd q3 ixV_noexc
  | stk => rw [q3] at o2; exact o2.elim
  | ok j =>
    rw [q3] at o2
    obtain ⟨ii, rfl, hj⟩ := ixV_ok q3
    have e12 := e1.trans e2
    have ha2 := e12.keep _ _ ha
    have nf2 : ¬ F2 a := fun z => by
      rcases e12.new a z with z | ⟨z, _⟩
      · exact nf z
      · rw [z] at ha; cases ha
    obtain ⟨s3, p3⟩ := st2.mut q2 hσ nf2 hb ha2 ((rr.ext e12).set (r1.ext e2) j)
    exact ⟨a, xs, ii, j, rfl, rep_int r2, ha2, by rw [rr.length]; exact hj, o2.next s3 (fun _ h => h) p3⟩
/-- o[i] of a list, by values -/
def rGetL : V → V → Hp → VK → Prop := fun o i H Q => ∃ p xs k x, o = .ref p ∧ i = .int k ∧ H p = some (.lst xs) ∧ atI xs k = some x ∧ Q x H
theorem get_list : PGet X rGetL := by
  intro pins s σ H o i ov iv Q I ro ri h
  obtain ⟨p, xs, k, x, rfl, rfl, hp, hx, q⟩ := h
  cases ro
  obtain ⟨t, rfl⟩ := ri
  obtain ⟨its, n, r, ho, hz⟩ := I.lst hp
  obtain ⟨j, h1, h2, h3, h4, h5⟩ := atI_get hx
  obtain ⟨u, hu, ru⟩ := r.get h2
  have hl := r.length
  have hn := line63
  have hL : s.heap.IsList p its.toArray := ⟨_, ho, rfl, n, rfl⟩
  by_cases h0 : 0 ≤ k
  · have hk : k.toNat = j := by
      rw [seqIndex_of h0 h5] at h1
      exact Option.some.inj h1
    exact wpAny_getItem_list hL h0 (by omega) (by rw [hk]; simpa using hu) ⟨x, H, I, ru, q⟩
  · have hk : (k + (its.toArray.size : Int)).toNat = j := by
      rw [seqIndex_neg (by omega) h4] at h1
      have := Option.some.inj h1
      rw [List.size_toArray, ← hl]; exact this
    exact wpAny_getItem_list_neg hL (by omega) (by rw [List.size_toArray, ← hl]; exact h4) (by omega) (by rw [hk]; simpa using hu) ⟨x, H, I, ru, q⟩
theorem getV_ok {l : List D} {j : Nat} {d : D} (h : getV l j = .ok d) : l[j]? = some d := by
  unfold getV at h
  split at h <;> cases h
  assumption
theorem getV_noexc {l : List D} {j c : Nat} : getV l j ≠ .exc c := by
  intro h
  unfold getV at h
  split at h <;> cases h
theorem aug_store {z : Expr} (hz : plainX z = true) : ∀ ov iv new, augStore z ov iv new = (do holding [new, ov, iv] (setItem ov iv new); release [new, ov, iv] []; pure .next) := by
  intro ov iv new
  cases z <;> first | rfl | cases hz
theorem oks_augI {i : Nat} {k e : Ex} {o : Bo} : OkS T N n Φ C ca (.augI i k o e) := by
  intro t sc X W G h B
  have h : (match augM t with
    | some (m, p) => chkE T N sc (.var i) (.Name m.x m.xp) && plainX m.z && chkE T N sc k m.z && opB o p && decide (o = .add ∨ o = .sub ∨ o = .mul ∨ o = .fdv) && chkE T N sc e m.y
    | none => false) = true := by cases t <;> exact h
  cases q : augM t with
  | none => rw [q] at h; cases h
  | some m =>
  obtain ⟨m, op⟩ := m
  rw [q] at h
  rw [augM_eq q]
  obtain ⟨x, xp, z, zp, y, p⟩ := m
  simp only [Bool.and_eq_true, decide_eq_true_eq] at h
  obtain ⟨⟨⟨⟨⟨h1, h2⟩, h3⟩, h4⟩, h5⟩, h6⟩ := h
  have eo := of_decide_eq_true h4
  subst eo
  refine PS.imp (ps_augS (pe_own G h1) ((ok_E k).sh G.gx h3 B) get_list ((ok_E e).sh G.gx h6 B) (ip_bin h5) set_list (aug_store h2)) fun Dn σ H ⟨ρ, F, st, ou⟩ => ?_
  obtain ⟨l, q2, o0⟩ := ownL_ok ou
  obtain ⟨a, xs, hσ, nf, hb, ha, rr⟩ := st.own_at q2
  refine ⟨_, hσ, ?_⟩
  refine (oS_bind (rel := rSh X.K) (f := fun ρ => ev Φ C ρ false k) st o0).imp fun kv H1 ⟨F1, kd, e1, st1, r1, o1⟩ => ?_
  cases q3 : ixV l.length kd with
  | exc c => exact absurd q3 ixV_noexc
  | stk => rw [q3] at o1; exact o1.elim
  | ok j =>
    rw [q3] at o1
    obtain ⟨ii, rfl, hj⟩ := ixV_ok q3
    simp only [Out.ofR_ok] at o1
    cases q4 : getV l j with
    | exc c => exact absurd q4 getV_noexc
    | stk => rw [q4] at o1; exact o1.elim
    | ok dx =>
      rw [q4] at o1
      have ha1 := e1.keep _ _ ha
      obtain ⟨x0, hx0, rx0⟩ := (rr.ext e1).get (getV_ok q4)
      refine ⟨a, xs, ii, x0, rfl, rep_int r1, ha1, by unfold atI; rw [rr.length, hj]; exact hx0, ?_⟩
      refine (oS_bind (rel := rSh X.K) (f := fun ρ => ev Φ C ρ false e) st1 o1).imp fun v2 H2 ⟨F2, d2, e2, st2, r2, o2⟩ => ?_
      cases q5 : augV o dx d2 with
      | exc c => exact absurd q5 augV_noexc
      | stk => rw [q5] at o2; exact o2.elim
      | ok w =>
        rw [q5] at o2
        obtain ⟨aa, bb, cc, rfl, rfl, rfl, hbn⟩ := augV_ok q5
        have e12 := e1.trans e2
        have ha2 := e12.keep _ _ ha
        have nf2 : ¬ F2 a := fun z => by
          rcases e12.new a z with z | ⟨z, _⟩
          · exact nf z
          · rw [z] at ha; cases ha
        obtain ⟨s3, p3⟩ := st2.mut q2 hσ nf2 hb ha2 ((rr.ext e12).set (.int cc) j)
        refine ⟨aa, bb, cc, rep_int rx0, rep_int r2, hbn, ?_⟩
        exact ⟨a, xs, ii, j, rfl, rep_int r1, ha2, by rw [rr.length]; exact hj, o2.next s3 (fun _ h => h) p3⟩
/-! ### own dicts -/
theorem oks_dnw {i : Nat} {t : Bool} : OkS T N n Φ C ca (.dnw i t) := by
  intro st sc X W G h B
  cases st <;> try (cases h; done)
  rename_i ts y p
  rcases ts with _ | ⟨tx, _ | ⟨t2, ts⟩⟩ <;> try (cases h; done)
  case cons.cons => cases tx <;> cases h
  cases tx <;> try (cases h; done)
  cases y <;> try (cases h; done)
  rename_i x xp ks vs dp
  cases ks <;> try (cases h; done)
  cases vs <;> try (cases h; done)
  simp only [chkS, Bool.and_eq_true, decide_eq_true_eq] at h
  obtain ⟨h1, h2⟩ := h
  obtain ⟨hl, hf⟩ := G.loc h2
  have hN : X.N.Nodup := by rw [G.gx.names]; exact G.gx.nd
  have hi : X.N[i]? = some x := by rw [G.gx.names]; exact h1
  have new : ∀ {σ H Dn}, tS X.K B ca W (exS Φ C (.dnw i t)) Dn σ H → ∀ p, H p = none → Dn.nx (σ.set i (some (.ref p))) (upd H p (if t then .dT [] else .dK [])) := fun {σ H Dn} ⟨ρ, F, st, o⟩ p hp => by
    cases q : stE ρ i (.own (if t then .dT [] else .dK [])) with
    | exc c => exact absurd q stE_noexc
    | stk => simp only [exS, q] at o; exact o.elim
    | ok ρ' =>
      simp only [exS, q] at o
      obtain ⟨rfl, hlen, hk⟩ := stE_ok q
      have e : Ext F F H (upd H p (if t then .dT [] else .dK [])) := Ext.upd hp
      have hb : B.H p = none := st.ext.back hp
      have nf : ¬ F p := st.dom.ne hp
      have st2 := st.setNew (a := p) (d := if t then .dT [] else .dK []) hlen hk e hp (by
        cases t with
        | true => exact ⟨p, [], rfl, nf, hb, upd_same, .nil⟩
        | false => exact ⟨p, [], rfl, nf, hb, upd_same, .nil⟩)
      exact OutOk.next o st2 (fun _ h => h) e.pres
  cases t with
  | true => exact PS.imp (ps_set hN hi hl pe_dnewT rfl hf) fun Dn σ H q p hp => new q p hp
  | false => exact PS.imp (ps_set hN hi hl pe_dnewK rfl hf) fun Dn σ H q p hp => new q p hp
theorem oks_dst {i : Nat} {k e : Ex} : OkS T N n Φ C ca (.dst i k e) := by
  intro t sc X W G h B
  have h : (match setM t with
    | some m => chkV N sc i (.Name m.x m.xp) && plainX m.z && chkE T N sc k m.z && chkE T N sc e m.y
    | none => false) = true := by cases t <;> exact h
  cases q : setM t with
  | none => rw [q] at h; cases h
  | some m =>
  rw [q] at h
  rw [setM_eq q]
  obtain ⟨x, xp, z, zp, y, p⟩ := m
  simp only [Bool.and_eq_true] at h
  obtain ⟨⟨⟨h1, h2⟩, h3⟩, h4⟩ := h
  have nc := chkE_nc h4
  have hs : swapsWith y (some (.Subscript (.Name x xp) z zp)) p.line X.env = pure false := by
    cases y <;> rfl
  refine PS.imp (ps_dput (by have := units_of G.gx; omega) (pe_name G.gx h1).1 ((ok_E k).sh G.gx h3 B) ((ok_E e).sh G.gx h4 B) hs) fun Dn σ H ⟨ρ, F, st, o⟩ => ?_
  have o' : ∃ t, dO ρ i = .ok t ∧ OutOk X.K B ca W F H Dn (Out.ofR ρ (ev Φ C ρ false e) fun d => Out.ofR ρ (ev Φ C ρ false k) fun z => Out.ofR ρ (putT t z d) fun t' => .nx (ρ.set i (.own t'))) := by
    simp only [exS] at o
    cases e1 : dO ρ i with
    | ok t => rw [e1] at o; exact ⟨t, rfl, o⟩
    | exc c => exact absurd e1 dO_noexc
    | stk => rw [e1] at o; exact o.elim
  obtain ⟨t, e0, o⟩ := o'
  refine (oS_bind (rel := rSh X.K) (f := fun ρ => ev Φ C ρ false e) st o).imp fun v H1 ⟨F1, d, e1, st1, r1, o1⟩ => ?_
  obtain ⟨a, ho, hσ, _, hb, _⟩ := st1.dicO e0
  refine ⟨_, hσ, (oS_bind (rel := rSh X.K) (f := fun ρ => ev Φ C ρ false k) st1 o1).imp fun kv H2 ⟨F2, kd, e2, st2, r2, o2⟩ => ?_⟩
  obtain ⟨a', _, hσ', nf, _, da⟩ := st2.dicO e0
  rw [hσ] at hσ'
  cases hσ'
  cases q3 : putT t kd d with
  | exc c => exact absurd q3 putT_noexc
  | stk => rw [q3] at o2; exact o2.elim
  | ok t' =>
    rw [q3] at o2
    obtain ⟨ob, dp, w⟩ := da.put r2 (r1.ext e2) q3
    have pr : Pres F2 H2 (upd H2 a ob) := pres_dic nf da
    refine ⟨a, _, rfl, dp, o2.next (st2.mutG ho hσ hb pr ?_) (fun _ h => h) pr⟩
    rcases w with ⟨l, xs, rfl, rfl, ra⟩ | ⟨l, xs, rfl, rfl, ra⟩
    · exact ⟨a, xs, rfl, nf, hb, upd_same, ra.pres pr fun _ h => h⟩
    · exact ⟨a, xs, rfl, nf, hb, upd_same, ra.pres pr fun _ h => h⟩
end
end Rv
/-! Statements: branches, loops, return, raise; all statements. -/
namespace Rv
open PySem PySem.Spec PyProof.Rows L2
section
variable {T : Tab} {N : List Str} {n : Nat} {Φ : Nat → List D → R D} {C : Nat → D} {ca : Nat → Addr} {sc : Scope} {X : Cx} {W : WX} {B : Bs}
theorem OutOk.next' {K : PySem.W.Frag} {F : Addr → Prop} {H : Hp} {σ : L2.St} {ρ : Env} {Dn : Ends} (st : StOk K B σ ρ F H) (o : OutOk K B ca W F H Dn (.nx ρ)) : Dn.nx σ H := o σ F H st (fun _ h => h) Pres.refl
theorem oks_exp {e : Ex} : OkS T N n Φ C ca (.exp e) := by
  intro t sc X W G h B
  cases t <;> try (cases h; done)
  rename_i y p
  simp only [chkS, Bool.and_eq_true] at h
  obtain ⟨h1, h2⟩ := h
  have hs : swapsWith y none p.line X.env = pure false := by cases y <;> first | rfl | cases h1
  refine PS.imp (ps_expr ((ok_E e).sh G.gx h2 B) hs) fun Dn σ H ⟨ρ, F, st, o⟩ => ?_
  refine (oS_bind (rel := rSh X.K) (f := fun ρ => ev Φ C ρ false e) st o).imp fun v H1 ⟨F1, d, e1, st1, r1, o1⟩ => ?_
  exact o1.next' st1
theorem oks_ret {e : Ex} : OkS T N n Φ C ca (.ret e) := by
  intro t sc X W G h B
  cases t <;> try (cases h; done)
  rename_i y p
  cases y <;> try (cases h; done)
  rename_i y
  refine PS.imp (ps_ret ((ok_E e).sh G.gx h B)) fun Dn σ H ⟨ρ, F, st, o⟩ => ?_
  refine (oS_bind (rel := rSh X.K) (f := fun ρ => ev Φ C ρ false e) st o).imp fun v H1 ⟨F1, d, e1, st1, r1, o1⟩ => ?_
  exact o1 v F1 H1 st1.ext r1
theorem oks_pas : OkS T N n Φ C ca .pas := by
  intro t sc X W G h B
  cases t <;> try (cases h; done)
  exact PS.imp ps_pass fun Dn σ H ⟨ρ, F, st, o⟩ => o σ F H st (fun _ h => h) Pres.refl
theorem oks_brk : OkS T N n Φ C ca .brk := by
  intro t sc X W G h B
  cases t <;> try (cases h; done)
  exact PS.imp ps_break fun Dn σ H ⟨ρ, F, st, o⟩ => o σ F H st (fun _ h => h) Pres.refl
theorem oks_cnt : OkS T N n Φ C ca .cnt := by
  intro t sc X W G h B
  cases t <;> try (cases h; done)
  exact PS.imp ps_continue fun Dn σ H ⟨ρ, F, st, o⟩ => o σ F H st (fun _ h => h) Pres.refl
theorem oks_ife {c : Ex} {a b : Ss} (ha : OkSs T N n Φ C ca a) (hb : OkSs T N n Φ C ca b) : OkS T N n Φ C ca (.ife c a b) := by
  intro t sc X W G h B
  cases t <;> try (cases h; done)
  simp only [chkS, Bool.and_eq_true] at h
  obtain ⟨⟨h1, h2⟩, h3⟩ := h
  refine PS.imp (ps_if ((ok_E c).tst G.gx h1 B) (ha _ sc X W G h2 B) (hb _ sc X W G h3 B)) fun Dn σ H ⟨ρ, F, st, o⟩ => ?_
  refine (oS_bind (rel := rEq) (f := fun ρ => truB (ev Φ C ρ false c)) st o).imp fun k H1 ⟨F1, k', e1, st1, r1, o1⟩ => ?_
  cases (show k = k' from r1)
  cases k with
  | true => rw [if_pos rfl] at o1 ⊢; exact ⟨ρ, F1, st1, o1⟩
  | false => rw [if_neg (by decide)] at o1 ⊢; exact ⟨ρ, F1, st1, o1⟩
/-- the turns of a for loop -/
theorem for_go {K : PySem.W.Frag} {J : It} {l : List D} {S : Addr → Prop} {F : Addr → Prop} {H : Hp} {σ : L2.St} {ρ : Env} {Dn : Ends} {t : Tg} {fb : Env → Out} (st : StOk K B σ ρ F H) (wk : Wk K J l S F H)
    (hS : ∀ σ' ρ' F' H', StOk K B σ' ρ' F' H' → ∀ a xs, S a → H a = some (.lst xs) → H' a = some (.lst xs)) (o : OutOk K B ca W F H Dn (forL (fun x ρ' => setT t x ρ') fb l ρ)) :
    ∃ W' : Nat → Nat → L2.St → Hp → Prop, (∃ m, W' 0 m σ H) ∧ ∀ i m σ H, W' i m σ H →
      (J.stop i H ∧ Dn.nx σ H) ∨ (J.go i H ∧ ∃ N' : L2.St → Hp → Prop, (∀ σ' H', N' σ' H' → ∃ m', m' < m ∧ W' (i + 1) m' σ' H') ∧
        ∀ x H', J.yld i H x H' → tgR K B t x σ H' fun σ2 H2 => tS K B ca W fb { Dn with nx := N', ct := N', bk := Dn.nx } σ2 H2) := by
  refine ⟨fun i m σ' H' => i ≤ l.length ∧ m = l.length - i ∧ ∃ ρ' F', StOk K B σ' ρ' F' H' ∧ (∀ a, F a → F' a) ∧ Pres F H H' ∧ OutOk K B ca W F' H' Dn (forL (fun x ρ' => setT t x ρ') fb (l.drop i) ρ'),
    ⟨l.length, Nat.zero_le _, rfl, ρ, F, st, fun _ h => h, Pres.refl, by simpa using o⟩, ?_⟩
  rintro i m σi Hi ⟨hi, rfl, ρi, Fi, sti, sub, pr, oi⟩
  obtain ⟨wgo, wstop⟩ := wk Fi Hi sub pr (hS _ _ _ _ sti) sti.dom
  by_cases hlt : i < l.length
  · have hd : l.drop i = l[i] :: l.drop (i + 1) := List.drop_eq_getElem_cons hlt
    rw [hd] at oi
    obtain ⟨jgo, jy⟩ := wgo i l[i] (List.getElem?_eq_getElem hlt)
    refine .inr ⟨jgo, fun σ' H' => i + 1 ≤ l.length ∧ ∃ ρ' F', StOk K B σ' ρ' F' H' ∧ (∀ a, F a → F' a) ∧ Pres F H H' ∧ OutOk K B ca W F' H' Dn (forL (fun x ρ' => setT t x ρ') fb (l.drop (i + 1)) ρ'),
      fun σ' H' ⟨h1, h2⟩ => ⟨l.length - (i + 1), by omega, h1, rfl, h2⟩, fun x H' y => ?_⟩
    obtain ⟨ext, rx⟩ := jy x H' y
    simp only [forL] at oi
    cases q : setT t l[i] ρi with
    | exc c => exact absurd q setT_noexc
    | stk => rw [q] at oi; exact oi.elim
    | ok ρ1 =>
      rw [q] at oi
      refine ⟨ρi, Fi, l[i], sti.mono ext, rx, ρ1, q, fun σ2 st2 _ _ => ⟨ρ1, Fi, st2, ?_⟩⟩
      have oi2 := OutOk.ext ext oi
      simp only [Out.ofR_ok] at oi2
      have nxt : ∀ ρ2, OutOk K B ca W Fi H' Dn (forL (fun x ρ' => setT t x ρ') fb (l.drop (i + 1)) ρ2) → ∀ σ' F' H2, StOk K B σ' ρ2 F' H2 → (∀ a, Fi a → F' a) → Pres Fi H' H2 →
          i + 1 ≤ l.length ∧ ∃ ρ' F', StOk K B σ' ρ' F' H2 ∧ (∀ a, F a → F' a) ∧ Pres F H H2 ∧ OutOk K B ca W F' H2 Dn (forL (fun x ρ' => setT t x ρ') fb (l.drop (i + 1)) ρ') :=
        fun ρ2 o2 σ' F' H2 s2 sb p2 => ⟨hlt, ρ2, F', s2, fun a z => sb a (sub a z), pr.trans sub (ext.pres.trans (fun _ h => h) p2), o2.step sb p2⟩
      cases e : fb ρ1 with
      | nx ρ2 => rw [e] at oi2; exact nxt ρ2 oi2
      | ct ρ2 => rw [e] at oi2; exact nxt ρ2 oi2
      | bk ρ2 => rw [e] at oi2; exact oi2
      | ret d => rw [e] at oi2; exact oi2
      | exc c ρ2 => rw [e] at oi2; exact oi2
      | stk => rw [e] at oi2; exact oi2
  · have e : i = l.length := by omega
    subst e
    rw [List.drop_length] at oi
    exact .inl ⟨wstop _ (Nat.le_refl _), oi σi Fi Hi sti (fun _ h => h) Pres.refl⟩
theorem oks_for {t : Tg} {s : Src} {b : Ss} (hb : OkSs T N n Φ C ca b) : OkS T N n Φ C ca (.for_ t s b) := by
  intro st0 sc X W G h B
  cases st0 <;> try (cases h; done)
  rename_i tg it x orelse p
  cases orelse <;> try (cases h; done)
  simp only [chkS, Bool.and_eq_true] at h
  obtain ⟨⟨h1, h2⟩, h3⟩ := h
  obtain ⟨hi, hf⟩ := ok_I s tg it sc _ X W G.gx h2 B false
  refine PS.imp (ps_for G.own G.gx.calm hi (pg_ok (B := B) G.gx h1) (hb x sc X W G h3 B) fun v => hf _ v) fun Dn σ H ⟨ρ, F, st, o⟩ => ?_
  refine ⟨ρ, F, st, ?_⟩
  dsimp only
  cases e : evi Φ C ρ false s with
  | exc c => simp only [exS, e] at o; exact fun F1 H1 e1 => o σ F1 H1 (st.mono e1) e1.sub e1.pres
  | stk => simp only [exS, e] at o; exact o
  | ok l =>
    simp only [exS, e, Out.ofR_ok] at o
    intro J S F' H' e1 hS wk
    exact for_go (st.mono e1) wk (fun _ _ _ _ _ a xs sa => absurd sa (hS rfl a)) (OutOk.ext e1 o)
/-! a loop over an own list -/
theorem forE_in {K : PySem.W.Frag} {i : Nat} {a : Addr} {xs : List V} {ds : List D} {F : Addr → Prop} {H : Hp} {σ : L2.St} {ρ : Env} (st : StOk K B σ ρ F H) (ho : ρ[i]? = some (.own (.lst ds))) (hs : σ[i]? = some (some (.ref a))) (nf : ¬ F a) (hb : B.H a = none) (ha : H a = some (.lst xs)) :
    StOk K ⟨B.F, upd B.H a (.lst xs), fun j => if j = i then some (.ref a) else B.L j⟩ σ (ρ.set i .lk) F H := by
  have hi := (List.getElem?_eq_some_iff.mp ho).1
  refine ⟨by rw [List.length_set]; exact st.len, ⟨fun x o e => ?_, st.ext.sub, fun x f => ?_⟩, st.dom, fun x f => ?_, fun j s e => ?_, fun j k dj dk e1 e2 hjk => ?_, fun j v e => ?_⟩
  · have e : upd B.H a (.lst xs) x = some o := e
    by_cases hx : x = a
    · subst hx; rw [upd_same] at e; rw [ha, e]
    · rw [upd_ne hx] at e; exact st.ext.keep x o e
  · have hx : x ≠ a := fun z => by rw [z] at f; exact nf f
    rcases st.ext.new x f with z | ⟨z, w⟩
    · exact .inl z
    · exact .inr ⟨by show upd B.H a _ x = none; rw [upd_ne hx]; exact z, w⟩
  · obtain ⟨o, w⟩ := st.dom0 x f
    have hx : x ≠ a := fun z => by rw [z, hb] at w; cases w
    exact ⟨o, by show upd B.H a _ x = _; rw [upd_ne hx]; exact w⟩
  · rcases get_set e with ⟨rfl, rfl⟩ | ⟨h1, h2⟩
    · trivial
    · have q := st.sl j s h2
      cases s with
      | un => trivial
      | lk => trivial
      | sh d => exact q
      | own d =>
        have off : ∀ {b : Addr}, σ[j]? = some (some (.ref b)) → b ≠ a := fun {b} e1 z => by
          subst z
          exact st.dis j i _ _ h2 ho h1 (by rw [e1, hs])
        cases d <;> try exact q
        · obtain ⟨b, zs, e1, n1, n2, e2, r1⟩ := q
          exact ⟨b, zs, e1, n1, by show upd B.H a _ b = none; rw [upd_ne (off e1)]; exact n2, e2, r1⟩
        · obtain ⟨b, zs, e1, n1, n2, e2, r1⟩ := q
          exact ⟨b, zs, e1, n1, by show upd B.H a _ b = none; rw [upd_ne (off e1)]; exact n2, e2, r1⟩
        · obtain ⟨b, zs, e1, n1, n2, e2, r1⟩ := q
          exact ⟨b, zs, e1, n1, by show upd B.H a _ b = none; rw [upd_ne (off e1)]; exact n2, e2, r1⟩
  · rcases get_set e1 with ⟨_, z⟩ | ⟨h1, h2⟩
    · cases z
    · rcases get_set e2 with ⟨_, z⟩ | ⟨h3, h4⟩
      · cases z
      · exact st.dis j k _ _ h2 h4 hjk
  · have e : (if j = i then some (.ref a) else B.L j) = some v := e
    by_cases hj : j = i
    · subst hj
      rw [if_pos rfl] at e
      cases e
      exact ⟨List.getElem?_set_self hi, hs⟩
    · rw [if_neg hj] at e
      obtain ⟨z1, z2⟩ := st.lkd j v e
      exact ⟨by rw [List.getElem?_set_ne (Ne.symm hj)]; exact z1, z2⟩
theorem forE_ext {i : Nat} {a : Addr} {xs : List V} {F : Addr → Prop} {H : Hp} (hb : B.H a = none) (e : Ext B.F F (upd B.H a (.lst xs)) H) : Ext B.F F B.H H := by
  have ne : ∀ {x}, upd B.H a (.lst xs) x = none → B.H x = none := fun {x} z => by
    by_cases hx : x = a
    · subst hx; exact hb
    · rw [upd_ne hx] at z; exact z
  refine ⟨fun x o q => e.keep x o ?_, e.sub, fun x f => ?_⟩
  · rw [upd_ne (fun z => by rw [z, hb] at q; cases q)]; exact q
  · rcases e.new x f with z | ⟨z, w⟩
    · exact .inl z
    · exact .inr ⟨ne z, w⟩
theorem forE_out {K : PySem.W.Frag} {i : Nat} {a : Addr} {xs : List V} {F : Addr → Prop} {H : Hp} {σ : L2.St} {ρ : Env} (hl : B.L i = none) (hb : B.H a = none) (d0 : Dom B.F B.H)
    (st : StOk K ⟨B.F, upd B.H a (.lst xs), fun j => if j = i then some (.ref a) else B.L j⟩ σ ρ F H) : StOk K B σ ρ F H := by
  have ne : ∀ {x}, upd B.H a (.lst xs) x = none → B.H x = none := fun {x} z => by
    by_cases hx : x = a
    · subst hx; exact hb
    · rw [upd_ne hx] at z; exact z
  refine ⟨st.len, forE_ext (i := i) hb st.ext, st.dom, d0, fun j s e => ?_, st.dis, fun j v e => ?_⟩
  · have q := st.sl j s e
    cases s with
    | un => trivial
    | lk => trivial
    | sh d => exact q
    | own d =>
      cases d <;> try exact q
      · obtain ⟨b, zs, e1, n1, n2, e2, r1⟩ := q
        exact ⟨b, zs, e1, n1, ne n2, e2, r1⟩
      · obtain ⟨b, zs, e1, n1, n2, e2, r1⟩ := q
        exact ⟨b, zs, e1, n1, ne n2, e2, r1⟩
      · obtain ⟨b, zs, e1, n1, n2, e2, r1⟩ := q
        exact ⟨b, zs, e1, n1, ne n2, e2, r1⟩
  · have hj : j ≠ i := fun z => by rw [z, hl] at e; cases e
    exact st.lkd j v (by show (if j = i then _ else _) = _; rw [if_neg hj]; exact e)
theorem forE_back {K : PySem.W.Frag} {i : Nat} {a : Addr} {xs : List V} {ds : List D} {F : Addr → Prop} {H : Hp} {σ : L2.St} {ρ : Env} (hl : B.L i = none) (hb : B.H a = none) (d0 : Dom B.F B.H) (nf0 : ¬ B.F a) (r : Reps K F H xs ds)
    (st : StOk K ⟨B.F, upd B.H a (.lst xs), fun j => if j = i then some (.ref a) else B.L j⟩ σ ρ F H) : StOk K B σ (ρ.set i (.own (.lst ds))) F H := by
  obtain ⟨hk, hσ⟩ := st.lkd i (.ref a) (by show (if i = i then _ else _) = _; rw [if_pos rfl])
  have hi := (List.getElem?_eq_some_iff.mp hk).1
  have st2 := forE_out hl hb d0 st
  have ha : H a = some (.lst xs) := st.ext.keep a _ (by show upd B.H a _ a = _; exact upd_same)
  have nf : ¬ F a := fun z => by
    rcases st.ext.new a z with z | ⟨z, _⟩
    · exact nf0 z
    · have z : upd B.H a (.lst xs) a = none := z
      rw [show upd B.H a (.lst xs) a = some (.lst xs) from upd_same] at z; cases z
  have oth : ∀ {j : Nat} {dj : D}, ρ[j]? = some (.own dj) → σ[j]? ≠ σ[i]? := fun {j dj} e z => by
    have q := st.sl j _ e
    have off : ∀ {b : Addr}, σ[j]? = some (some (.ref b)) → upd B.H a (.lst xs) b = none → False := fun {b} e1 n2 => by
      rw [hσ, e1] at z
      cases z
      rw [show upd B.H a (.lst xs) a = some (.lst xs) from upd_same] at n2; cases n2
    cases dj <;> try exact q
    · obtain ⟨b, zs, e1, n1, n2, e2, r1⟩ := q
      exact off e1 n2
    · obtain ⟨b, zs, e1, n1, n2, e2, r1⟩ := q
      exact off e1 n2
    · obtain ⟨b, zs, e1, n1, n2, e2, r1⟩ := q
      exact off e1 n2
  refine ⟨by rw [List.length_set]; exact st.len, st2.ext, st.dom, d0, fun j s e => ?_, fun j k dj dk e1 e2 hjk => ?_, fun j v e => ?_⟩
  · rcases get_set e with ⟨rfl, rfl⟩ | ⟨h1, h2⟩
    · exact ⟨a, xs, hσ, nf, hb, ha, r⟩
    · exact st2.sl j s h2
  · rcases get_set e1 with ⟨rfl, _⟩ | ⟨h1, h2⟩
    · rcases get_set e2 with ⟨rfl, _⟩ | ⟨h3, h4⟩
      · exact absurd rfl hjk
      · exact (oth h4).symm
    · rcases get_set e2 with ⟨rfl, _⟩ | ⟨h3, h4⟩
      · exact oth h2
      · exact st.dis j k _ _ h2 h4 hjk
  · have hj : j ≠ i := fun z => by rw [z, hl] at e; cases e
    obtain ⟨z1, z2⟩ := st2.lkd j v e
    exact ⟨by rw [List.getElem?_set_ne (Ne.symm hj)]; exact z1, z2⟩
theorem oks_forE {t : Tg} {i : Nat} {b : Ss} (hb : OkSs T N n Φ C ca b) : OkS T N n Φ C ca (.forE t i b) := by
  intro st0 sc X W G h B
  cases st0 <;> try (cases h; done)
  rename_i tg x body orelse p
  cases orelse <;> try (cases h; done)
  simp only [chkS, Bool.and_eq_true] at h
  obtain ⟨⟨h1, h⟩, h3⟩ := h
  have cg := h1
  cases tg <;> try (cases h; done)
  cases x <;> try (cases h; done)
  rename_i elts k tp g xs kw p2
  cases g <;> try (cases h; done)
  rcases xs with _ | ⟨x, _ | ⟨y, xs⟩⟩ <;> try (cases h; done)
  cases kw <;> try (cases h; done)
  rename_i g gp
  simp only [chkI, Bool.and_eq_true, decide_eq_true_eq] at h
  obtain ⟨⟨⟨g1, g2⟩, g3⟩, g4⟩ := h
  subst g1
  cases x <;> try (cases g4; done)
  rename_i x xp
  have hi := pi_enum (pos := p2) (p := gp) (elts := elts) (kk := k) (tpos := tp) (G.gx.gl g2) (boot_nm (by decide +kernel) G.gx) (pa_cons' g3 (pe_own G g4) pa_nil) (star_cons g3 [] X.env)
  refine ⟨fun pins s σ H Dn I q => ?_⟩
  obtain ⟨ρ, F, st, o⟩ := q
  obtain ⟨ds, q2, o⟩ := ownL_ok o
  obtain ⟨a, xs, hσ, nf, hb0, ha, rr⟩ := st.own_at q2
  have hl : B.L i = none := by
    cases e : B.L i with
    | none => rfl
    | some v => have := (st.lkd i v e).1; rw [q2] at this; cases this
  have nf0 : ¬ B.F a := fun z => nf (st.ext.sub a z)
  have st' := forE_in st q2 hσ nf hb0 ha
  have hps := ps_for (pos := p) G.own G.gx.calm hi (pg_ok (B := ⟨B.F, upd B.H a (.lst xs), fun j => if j = i then some (.ref a) else B.L j⟩) G.gx cg) (hb body sc X W G h3 ⟨B.F, upd B.H a (.lst xs), fun j => if j = i then some (.ref a) else B.L j⟩) fun v => rfl
  refine hps.run pins s σ H Dn I ⟨_, hσ, a, xs, rfl, .inl (.inl ha), ?_⟩
  refine for_go (S := fun z => z = a) st' (wk_enm _ (.inr ⟨rfl, ha⟩) rr) (fun σ' ρ' F' H' s' z ys sz hz => ?_) ?_
  · subst sz
    rw [ha] at hz; cases hz
    exact s'.ext.keep z _ (by show upd B.H z _ z = _; exact upd_same)
  · have hd : ∀ {oo : Out}, OutOk X.K B ca W F H Dn (Out.back i (.own (.lst ds)) oo) → OutOk X.K ⟨B.F, upd B.H a (.lst xs), fun j => if j = i then some (.ref a) else B.L j⟩ ca W F H Dn oo := fun {oo} o => by
      cases oo with
      | nx ρ' => exact fun σ' F' H' s' sb p' => o σ' F' H' (forE_back hl hb0 st.dom0 nf0 (rr.pres p' sb) s') sb p'
      | bk ρ' => exact o.elim
      | ct ρ' => exact o.elim
      | exc c ρ' => exact fun σ' F' H' s' sb p' => o σ' F' H' (forE_out hl hb0 st.dom0 s') sb p'
      | ret d => exact fun v F' H' e r => o v F' H' (forE_ext (i := i) hb0 e) r
      | stk => exact o.elim
    exact hd o
theorem whlR_ok {c : Env → R Bool} {b : Env → Out} {ρ : Env} (h : whlR c b ρ ≠ .stk) : ∃ n, whlN c b n ρ = some (whlR c b ρ) := by
  unfold whlR at h ⊢
  split
  · rename_i hx
    exact ⟨_, Classical.choose_spec (Classical.choose_spec hx)⟩
  · rename_i hx
    rw [dif_neg hx] at h
    exact absurd rfl h
theorem oks_whl {c : Ex} {b : Ss} (hb : OkSs T N n Φ C ca b) : OkS T N n Φ C ca (.whl c b) := by
  intro st0 sc X W G h B
  cases st0 <;> try (cases h; done)
  rename_i z body orelse p
  cases orelse <;> try (cases h; done)
  simp only [chkS, Bool.and_eq_true] at h
  obtain ⟨h1, h2⟩ := h
  refine PS.imp (ps_while G.own ((ok_E c).tst G.gx h1 B) (hb body sc X W G h2 B)) fun Dn σ H ⟨ρ, F, st, o⟩ => ?_
  have o : OutOk X.K B ca W F H Dn (whlR (fun ρ' => truB (ev Φ C ρ' false c)) (fun ρ' => exSs Φ C b ρ') ρ) := o
  have hne : whlR (fun ρ' => truB (ev Φ C ρ' false c)) (fun ρ' => exSs Φ C b ρ') ρ ≠ .stk := fun z => by rw [z] at o; exact o
  obtain ⟨m0, e0⟩ := whlR_ok hne
  generalize hoo : whlR (fun ρ' => truB (ev Φ C ρ' false c)) (fun ρ' => exSs Φ C b ρ') ρ = oo at e0 o
  clear hoo hne
  refine ⟨fun m σ H => ∃ ρ F, StOk X.K B σ ρ F H ∧ ∃ oo, whlN (fun ρ' => truB (ev Φ C ρ' false c)) (fun ρ' => exSs Φ C b ρ') m ρ = some oo ∧ OutOk X.K B ca W F H Dn oo, ⟨m0, ρ, F, st, oo, e0, o⟩, ?_⟩
  rintro m σ H ⟨ρ, F, st, oo, e0, o⟩
  cases m with
  | zero => simp [whlN] at e0
  | succ m =>
  simp only [whlN] at e0
  refine ⟨ρ, F, st, ?_⟩
  dsimp only
  cases q : truB (ev Φ C ρ false c) with
  | exc k =>
    rw [q] at e0
    cases e0
    exact fun F1 H1 e1 => o σ F1 H1 (st.mono e1) e1.sub e1.pres
  | stk => rw [q] at e0; cases e0; exact o
  | ok k =>
    rw [q] at e0
    intro k' F1 H1 e1 ek
    cases (show k' = k from ek)
    have st1 := st.mono e1
    have o1 := OutOk.ext e1 o
    cases k with
    | false =>
      cases e0
      rw [if_neg (by decide)]
      exact o1.next' st1
    | true =>
      rw [if_pos rfl]
      refine ⟨fun σ' H' => ∃ ρ F, StOk X.K B σ' ρ F H' ∧ ∃ oo, whlN (fun ρ' => truB (ev Φ C ρ' false c)) (fun ρ' => exSs Φ C b ρ') m ρ = some oo ∧ OutOk X.K B ca W F H' Dn oo, fun σ' H' h => ⟨m, Nat.lt_succ_self _, h⟩, ρ, F1, st1, ?_⟩
      dsimp only at e0
      cases e : exSs Φ C b ρ with
      | nx ρ2 => rw [e] at e0; exact fun σ' F' H' s' sb p' => ⟨ρ2, F', s', oo, e0, o1.step sb p'⟩
      | ct ρ2 => rw [e] at e0; exact fun σ' F' H' s' sb p' => ⟨ρ2, F', s', oo, e0, o1.step sb p'⟩
      | bk ρ2 => rw [e] at e0; cases e0; exact o1
      | ret d => rw [e] at e0; cases e0; exact o1
      | exc k ρ2 => rw [e] at e0; cases e0; exact o1
      | stk => rw [e] at e0; cases e0; exact o1
end
end Rv
/-! raise; all statements; a program's defs. -/
namespace Rv
open PySem PySem.Spec PyProof.Rows L2
section
variable {X : Cx} {E0' : Addr} {bmB : List Value} {B newId initId : String}
/-- X(), X an own exception class without own __init__ -/
theorem pmk_own0 {x : Str} {p pos : Pos} (F : ExcBaseFacts B newId initId bmB) (q : PySem.W.excIn X.K E0' bmB newId = true) (gC : X.mg x = some (.ref E0')) (kC : PySem.W.keepIn X.K (.ref E0') = true) (r : Raises X (.ref E0')) (hg : Gl X x) (hdb : (x == ("__debug__" : Str)) = false) :
    L2N.PMk X (.Call (.Name x p) [] [] pos) (fun _ H Q => Q (.ref E0') none H) := by
  intro pins s σ H Q I h
  refine wpAny_Call_Name_kw (ld_glob I hg gC ?_ hdb)
  refine PySem.W.callWith_K0 I.kIn kC ?_
  show wpAny _ _ (PySem.call (.ref E0') []) _ _ _
  obtain ⟨bm, N, nm, qn, bs, hdct, sn, sub, ab, col, dd, k0, k1, k2, k3, k5, mN, hC, hN, hni, T⟩ := exc_obj I.kIn q
  exact wpAny_call_exc_subT F T hC hN hni (fun h' e hm => L2N.mk_of I hm r h (I.hok.gone hm.new)) (Nat.zero_le _)
end
section
variable {T : Tab} {N : List Str} {n : Nat} {Φ : Nat → List D → R D} {C : Nat → D} {ca : Nat → Addr} {sc : Scope} {X : Cx} {W : WX} {B : Bs}
theorem oks_rse {c : Nat} : OkS T N n Φ C ca (.rse c) := by
  intro t sc X W G h B
  have h : (match rseM t with
    | some (x, _, _, _) => decide (T.exs.lookup x = some c) && glB sc x && okN x
    | none => false) = true := by cases t <;> exact h
  cases q : rseM t with
  | none => rw [q] at h; cases h
  | some m =>
  obtain ⟨x, xp, cp, p⟩ := m
  rw [q] at h
  rw [rseM_eq q]
  simp only [Bool.and_eq_true, decide_eq_true_eq] at h
  obtain ⟨⟨h1, h2⟩, h3⟩ := h
  have ex := G.exs x c h1
  exact PS.imp (L2N.ps_raise G.gx.calm G.tk (pmk_own0 PySem.F.excBase_ValueError ex.q ex.g ex.k ex.r (G.gx.gl h2) (okN_dbg h3))) fun Dn σ H ⟨ρ, F, st, o⟩ => o σ F H st (fun _ h => h) Pres.refl
theorem frzE_ok {K : PySem.W.Frag} {i : Nat} {σ : L2.St} {ρ : Env} {F : Addr → Prop} {H : Hp} (st : StOk K B σ ρ F H) : ∃ F', (∀ a, F a → F' a) ∧ StOk K B σ (frzE i ρ) F' H := by
  unfold frzE
  split
  · rename_i d0 q
    have qo := st.sl i _ q
    have key : ∃ a ob, σ[i]? = some (some (.ref a)) ∧ ¬ F a ∧ B.H a = none ∧ H a = some ob ∧ Rep K (fun x => F x ∨ x = a) H (.ref a) d0 := by
      cases d0 <;> try exact qo.elim
      · obtain ⟨a, xs, hσ, nf, hb, ha, rr⟩ := qo
        exact ⟨a, _, hσ, nf, hb, ha, .lst (.inl ⟨.inr rfl, ha⟩) (rr.pres Pres.refl fun _ h => .inl h)⟩
      · obtain ⟨a, xs, hσ, nf, hb, ha, rr⟩ := qo
        exact ⟨a, _, hσ, nf, hb, ha, .dK (.inr rfl) ha rr.keys (rr.back.pres Pres.refl fun _ h => .inl h)⟩
      · obtain ⟨a, xs, hσ, nf, hb, ha, rr⟩ := qo
        exact ⟨a, _, hσ, nf, hb, ha, .dT (.inr rfl) ha rr.keys (rr.back.pres Pres.refl fun _ h => .inl h)⟩
    obtain ⟨a, ob, hσ, nf, hb, ha, rr⟩ := key
    have hi := (List.getElem?_eq_some_iff.mp q).1
    have old : ∀ {j : Nat} {s : Sl}, (ρ.set i (.sh d0))[j]? = some s → (∀ d, s ≠ .sh d) → j ≠ i ∧ ρ[j]? = some s := fun {j s} e hn => by
      rcases get_set e with ⟨_, z⟩ | ⟨h1, h2⟩
      · exact absurd z (hn _)
      · exact ⟨h1, h2⟩
    refine ⟨fun x => F x ∨ x = a, fun _ h => .inl h, by rw [List.length_set]; exact st.len, ⟨st.ext.keep, fun x h => .inl (st.ext.sub x h), fun x h => ?_⟩, fun x h => ?_, st.dom0, fun j s e => ?_, fun j k dj dk e1 e2 hjk => ?_, fun j v e => ?_⟩
    · rcases h with h | rfl
      · exact st.ext.new x h
      · exact .inr ⟨hb, _, ha⟩
    · rcases h with h | rfl
      · exact st.dom x h
      · exact ⟨_, ha⟩
    · rcases get_set e with ⟨rfl, rfl⟩ | ⟨h1, h2⟩
      · exact ⟨.ref a, hσ, rr⟩
      · have z := st.sl j s h2
        cases s with
        | un => trivial
        | lk => trivial
        | sh d => obtain ⟨x, e1, r1⟩ := z; exact ⟨x, e1, r1.pres Pres.refl fun _ h => .inl h⟩
        | own d =>
          have off : ∀ {b : Addr}, σ[j]? = some (some (.ref b)) → b ≠ a := fun {b} e1 y => by
            subst y
            exact st.dis j i _ _ h2 q h1 (by rw [e1, hσ])
          cases d <;> try exact z
          · obtain ⟨b, zs, e1, n1, n2, e2, r1⟩ := z
            exact ⟨b, zs, e1, fun y => y.elim n1 (off e1), n2, e2, r1.pres Pres.refl fun _ h => .inl h⟩
          · obtain ⟨b, zs, e1, n1, n2, e2, r1⟩ := z
            exact ⟨b, zs, e1, fun y => y.elim n1 (off e1), n2, e2, r1.pres Pres.refl fun _ h => .inl h⟩
          · obtain ⟨b, zs, e1, n1, n2, e2, r1⟩ := z
            exact ⟨b, zs, e1, fun y => y.elim n1 (off e1), n2, e2, r1.pres Pres.refl fun _ h => .inl h⟩
    · exact st.dis j k _ _ (old e1 (fun _ z => by cases z)).2 (old e2 (fun _ z => by cases z)).2 hjk
    · obtain ⟨h1, h2⟩ := st.lkd j v e
      have ne : j ≠ i := fun z => by subst z; rw [q] at h1; cases h1
      exact ⟨by rw [List.getElem?_set_ne (Ne.symm ne)]; exact h1, h2⟩
  · exact ⟨F, fun _ h => h, st⟩
theorem okss_nil : OkSs T N n Φ C ca .nil := by
  intro t sc X W G h B
  cases t <;> try (cases h; done)
  exact PSs.imp pss_nil fun Dn σ H ⟨ρ, F, st, o⟩ => o.next' st
theorem okss_frz {i : Nat} {ss : Ss} (h : OkSs T N n Φ C ca ss) : OkSs T N n Φ C ca (.frz i ss) := by
  intro t sc X W G h0 B
  have h1 : chkSs T N sc ss t = true := by cases t <;> exact h0
  exact PSs.imp (h t sc X W G h1 B) fun Dn σ H ⟨ρ, F, st, o⟩ => by
    obtain ⟨F', sb, st'⟩ := frzE_ok (i := i) st
    exact ⟨_, F', st', OutOk.step sb Pres.refl o⟩
theorem okss_cons {s : S} {ss : Ss} (hs : OkS T N n Φ C ca s) (h : OkSs T N n Φ C ca ss) : OkSs T N n Φ C ca (.cons s ss) := by
  intro t sc X W G h0 B
  cases t <;> try (cases h0; done)
  rename_i t ts
  simp only [chkSs, Bool.and_eq_true] at h0
  refine PSs.imp (pss_cons (hs t sc X W G h0.1 B) (h ts sc X W G h0.2 B)) fun Dn σ H ⟨ρ, F, st, o⟩ => ⟨ρ, F, st, ?_⟩
  dsimp only [exSs] at o
  cases e : exS Φ C s ρ with
  | nx ρ' =>
    rw [e] at o
    exact fun σ' F' H' st' sb p' => ⟨ρ', F', st', o.step sb p'⟩
  | bk ρ' => rw [e] at o; exact o
  | ct ρ' => rw [e] at o; exact o
  | ret d => rw [e] at o; exact o
  | exc c ρ' => rw [e] at o; exact o
  | stk => rw [e] at o; exact o
theorem StOk.unset {K : PySem.W.Frag} {F : Addr → Prop} {H : Hp} {σ : L2.St} {ρ : Env} {i : Nat} (st : StOk K B σ ρ F H) (hk : ρ[i]? ≠ some .lk) : StOk K B (σ.set i none) (ρ.set i .un) F H := by
  refine ⟨by simp only [List.length_set]; exact st.len, st.ext, st.dom, st.dom0, fun j s e => ?_, fun j k dj dk e1 e2 hjk => ?_, fun j w e => ?_⟩
  · rcases get_set e with ⟨rfl, rfl⟩ | ⟨h1, h2⟩
    · trivial
    · rw [List.getElem?_set_ne (Ne.symm h1)]; exact st.sl j s h2
  · rcases get_set e1 with ⟨_, h⟩ | ⟨h1, h2⟩
    · cases h
    · rcases get_set e2 with ⟨_, h⟩ | ⟨h3, h4⟩
      · cases h
      · rw [List.getElem?_set_ne (Ne.symm h1), List.getElem?_set_ne (Ne.symm h3)]
        exact st.dis j k dj dk h2 h4 hjk
  · obtain ⟨h1, h2⟩ := st.lkd j w e
    have ne : j ≠ i := fun z => by subst z; exact hk h1
    rw [List.getElem?_set_ne (Ne.symm ne), List.getElem?_set_ne (Ne.symm ne)]
    exact ⟨h1, h2⟩
theorem GD.tr (G : GD T N n Φ C ca sc X W) {W' : WX} {pn : List (Addr × Obj)} {xe : Value → Shared → Prop} (tk : L2N.Takes (X.tr pn xe) W') (own : PassesOwn (model X.prog X.w) X.A X.env xe) : GD T N n Φ C ca sc (X.tr pn xe) W' where
  gx := {
    names := G.gx.names
    scope := G.gx.scope
    fnc := G.gx.fnc
    calm := G.gx.calm
    nd := G.gx.nd
    room := G.gx.room
    blt := G.gx.blt
    fns := fun g fi h => ⟨(G.gx.fns g fi h).ex, (G.gx.fns g fi h).ar⟩
    cns := G.gx.cns
    pass := fun σ => L2N.passAt tk σ }
  own := own
  tk := tk
  fkind := G.fkind
  exs := fun x c h => ⟨(G.exs x c h).g, (G.exs x c h).q, (G.exs x c h).k, (G.exs x c h).r⟩
  kn := fun c l h => ⟨(G.kn c l h).fn, (G.kn c l h).ex⟩
  stk := G.stk
theorem reps_strs {K : PySem.W.Frag} {F : Addr → Prop} {H : Hp} : ∀ ns : List Str, Reps K F H (ns.map V.str) (ns.map D.str)
  | [] => .nil
  | n :: ns => .cons (.str n) (reps_strs ns)
theorem oks_tryK {b : Ss} {e k : Nat} (hb : OkSs T N n Φ C ca b) : OkS T N n Φ C ca (.tryK b e k) := by
  intro t sc X W G h B
  have h : (match tryM t with
    | some m => decide (N[e]? = some m.en) && decide (N[k]? = some m.kn) && !(m.en == m.kn) && decide (sc.names.lookup m.en = some .local) && decide (sc.names.lookup m.kn = some .local) && (T.exs.lookup (Str.ofString "TurnError")).isSome && glB sc (Str.ofString "TurnError") && glB sc (Str.ofString "_law_kin") && okN m.en && chkSs T N sc b (tryBody t)
    | none => false) = true := by cases t <;> exact h
  cases q : tryM t with
  | none => rw [q] at h; cases h
  | some m =>
  rw [q] at h
  have et := tryM_eq q
  have eb : tryBody t = m.body := by rw [et]; rfl
  rw [eb] at h
  rw [et]
  simp only [Bool.and_eq_true, decide_eq_true_eq, Bool.not_eq_true'] at h
  obtain ⟨⟨⟨⟨⟨⟨⟨⟨⟨h1, h2⟩, h3⟩, h4⟩, h5⟩, h6⟩, h7⟩, h8⟩, h9⟩, h10⟩ := h
  obtain ⟨cT, hT⟩ := Option.isSome_iff_exists.mp h6
  have XT := G.exs _ _ hT
  have ne : e ≠ k := fun z => by
    rw [z, h2] at h1
    have z2 : m.kn = m.en := Option.some.inj h1
    rw [z2] at h3
    simp at h3
  have nd : X.N.Nodup := by rw [G.gx.names]; exact G.gx.nd
  have he : X.env.scope.names.lookup m.en = some .local := by rw [G.gx.scope]; exact h4
  have hk : X.env.scope.names.lookup m.kn = some .local := by rw [G.gx.scope]; exact h5
  have hd1 : (Str.ofString "TurnError" == ("__debug__" : Str)) = false := by decide +kernel
  have hd2 : (Str.ofString "_law_kin" == ("__debug__" : Str)) = false := by decide +kernel
  refine PS.imp (L2N.ps_try_as (x := Str.ofString "TurnError") (n := m.en) (c := .ref (ca cT)) (i := e) (tb := fun W' => tS X.K B ca W' (exSs Φ C b))
    (ts := fun a cls d Dn σ H => ∃ c l, kinOf (C c) = some l ∧ cls = .ref (ca c) ∧ d = none ∧ σ[e]? = some (some (.ref a)) ∧ ∀ (ns : List Str) (q : Addr) (H' : Hp), l = ns.map D.str → Keeps H H' → H q = none → H' q = some (.lst (ns.map V.str)) → Dn.nx (σ.set k (some (.ref q))) H')
    (Wout := W) G.stk.1 G.stk.2 nd (by rw [G.gx.names]; exact h1) he ⟨G.gx.gl h7, hd1, .inl XT.g⟩ G.tk (fun W' pn xe tk own => hb m.body sc (X.tr pn xe) W' (G.tr tk own) h10 B) fun a oe cls d pn hz hf => ⟨fun pins s σ H Dn I hh => ?_⟩) fun Dn σ H ⟨ρ, F, st, o⟩ => ⟨ρ, F, st, ?_⟩
  · obtain ⟨c, l, hk1, ec, ed, hσ, hq⟩ := hh
    subst ec ed
    obtain ⟨ns, f, fd, el, g1, g2, g3, g4⟩ := (G.kn c l hk1).fn
    have pk := pe_kin (X := X) (a := a) (pn := pn) (i := e) (x := Str.ofString "_law_kin") (p := m.fp) (ep := m.ep) (pos := m.cp) hz hf ((L2H.roomH_of G.gx.room).mono (Nat.zero_le _)) (G.gx.gl h8) g1 g2 g3 g4 (by rw [G.gx.names]; exact h1) (.inl he) h9 hd2
    refine (pss_cons (ps_set (X := X.suite a ((a, oe) :: pn)) nd (by show X.N[k]? = _; rw [G.gx.names]; exact h2) (.inl hk) pk rfl (.inr hk)) pss_nil).run pins s σ H Dn I ⟨hσ, fun q H' k1 k2 k3 => hq ns q H' el k1 k2 k3⟩
  · dsimp only [exS] at o
    cases eo : exSs Φ C b ρ with
    | nx ρ' => rw [eo] at o; exact o
    | bk ρ' => rw [eo] at o; exact o
    | ct ρ' => rw [eo] at o; exact o
    | ret d => rw [eo] at o; exact o
    | stk => rw [eo] at o; exact o
    | exc c ρ' =>
      rw [eo] at o
      dsimp only at o
      cases ek : kinOf (C c) with
      | none => rw [ek] at o; exact o.elim
      | some l =>
      rw [ek] at o
      dsimp only at o
      cases q1 : stE ρ' e .un with
      | exc c' => exact absurd q1 stE_noexc
      | stk => rw [q1] at o; exact o.elim
      | ok ρ1 =>
      rw [q1] at o
      simp only [R.bind_ok] at o
      cases q2 : stE ρ1 k (.sh (.lst l)) with
      | exc c' => exact absurd q2 stE_noexc
      | stk => rw [q2] at o; exact o.elim
      | ok ρ2 =>
      rw [q2] at o
      simp only [Out.ofR_ok] at o
      obtain ⟨rfl, hi, hk1⟩ := stE_ok q1
      obtain ⟨rfl, hi2, hk2⟩ := stE_ok q2
      intro σ' F' H' st' sb p'
      have hs : e < σ'.length := by rw [st'.len]; exact hi
      refine ⟨true, (G.kn c l ek).ex cT hT, fun _ a ha => ⟨c, l, ek, rfl, rfl, List.getElem?_set_self hs, fun ns q H2 el k1 k2 k3 => ?_⟩, fun z => by cases z⟩
      subst el
      have ext : Ext F' F' H' H2 := ⟨k1, fun _ h => h, fun _ h => .inl h⟩
      have ext2 : Ext F' (fun x => F' x ∨ x = q) H' H2 := ext.frz k2 k3
      have st2 := ((st'.mono ext2).unset hk1).set (i := k) (v := .ref q) (d := .lst (ns.map D.str)) hi2 hk2 (.lst (.inl ⟨.inr rfl, k3⟩) (reps_strs ns))
      have es : ((σ'.set e (some (.ref a))).set k (some (.ref q))).set e none = (σ'.set e none).set k (some (.ref q)) := by
        rw [List.set_comm _ _ ne, List.set_set, List.set_comm _ _ (Ne.symm ne)]
      show Dn.nx (((σ'.set e (some (.ref a))).set k (some (.ref q))).set e none) H2
      rw [es]
      exact o _ _ _ st2 (fun x z => .inl (sb x z)) (p'.trans sb ext2.pres)
mutual
theorem ok_S : ∀ s : S, OkS T N n Φ C ca s
  | .asg _ _ _ => oks_asg
  | .unp _ _ => oks_unp
  | .par _ _ _ _ => oks_par
  | .par3 _ _ _ _ _ _ => oks_par3
  | .aug _ _ _ => oks_aug
  | .app _ _ => oks_app
  | .setI _ _ _ => oks_setI
  | .augI _ _ _ _ => oks_augI
  | .ife _ a b => oks_ife (ok_Ss a) (ok_Ss b)
  | .for_ _ _ b => oks_for (ok_Ss b)
  | .forE _ _ b => oks_forE (ok_Ss b)
  | .whl _ b => oks_whl (ok_Ss b)
  | .ret _ => oks_ret
  | .rse _ => oks_rse
  | .exp _ => oks_exp
  | .dnw _ _ => oks_dnw
  | .parO _ _ _ _ _ _ => oks_parO
  | .par3O _ _ _ _ _ _ _ _ _ => oks_par3O
  | .dst _ _ _ => oks_dst
  | .tryK b _ _ => oks_tryK (ok_Ss b)
  | .brk => oks_brk
  | .cnt => oks_cnt
  | .pas => oks_pas
theorem ok_Ss : ∀ s : Ss, OkSs T N n Φ C ca s
  | .nil => okss_nil
  | .cons s ss => okss_cons (ok_S s) (ok_Ss ss)
  | .frz _ ss => okss_frz (ok_Ss ss)
end
end
/-! ### a program's defs -/
/-- a def: its name, its number, its clean form, its names (the parameters first), its text; the default of its last parameter, the last one's name where it is given by keyword alone -/
structure DefI where
  x : Str
  id : Nat
  fd : Fd
  N : List Str
  ps : List Str
  st : Stmt
  df : Option Int
  kw : Option Str
/-- how the text binds -/
inductive BdOk (x : Str) (st : Stmt) (ps : List Str) : Option Int → Option Str → Prop
  | plain (h : ∀ (kV doc pm : Value) (an : Option Addr) (cdv ct : Value) (us : List Value), us.length = ps.length → bindArgs (PySem.W.fnOf x x (defArgs st) (defBody st) (defScope st) .none kV doc pm an cdv ct) ⟨us, []⟩ = pure (ps.zip us)) : BdOk x st ps none none
  | dflt (d : Int) (h : ∀ (T : Addr) (kV doc pm : Value) (an : Option Addr) (cdv ct : Value) (us its : List Value), us.length + 1 = ps.length → its.length = 1 →
      ∃ k, bindArgs (PySem.W.fnOf x x (defArgs st) (defBody st) (defScope st) (.ref T) kV doc pm an cdv ct) ⟨us, []⟩ = seqItems? (.ref T) >>= k ∧ k (some its.toArray) = pure (ps.zip (us ++ its)))
      (h2 : ∀ (T : Addr) (kV doc pm : Value) (an : Option Addr) (cdv ct : Value) (us its : List Value), us.length = ps.length → its.length = 1 →
      ∃ k, bindArgs (PySem.W.fnOf x x (defArgs st) (defBody st) (defScope st) (.ref T) kV doc pm an cdv ct) ⟨us, []⟩ = seqItems? (.ref T) >>= k ∧ k (some its.toArray) = pure (ps.zip us)) : BdOk x st ps (some d) none
  | kwo (d : Int) (k : Str) (h : ∀ (D : Addr) (doc pm : Value) (an : Option Addr) (cdv ct : Value) (us ks : List Value), us.length + 1 = ps.length → ks.length = 1 →
      KwChain D ([k].zip ks) (bindArgs (PySem.W.fnOf x x (defArgs st) (defBody st) (defScope st) .none (.ref D) doc pm an cdv ct) ⟨us, []⟩) (ps.zip (us ++ ks)))
      (h2 : ∀ (D : Addr) (doc pm : Value) (an : Option Addr) (cdv ct : Value) (us ws : List Value), us.length + 1 = ps.length → ws.length = 1 →
      bindArgs (PySem.W.fnOf x x (defArgs st) (defBody st) (defScope st) .none (.ref D) doc pm an cdv ct) ⟨us, [k].zip ws⟩ = pure (ps.zip (us ++ ws))) : BdOk x st ps (some d) (some k)
def dvsOf : Option Int → Option Str → List V
  | some d, none => [.int d]
  | _, _ => []
def kwsOf : Option Int → Option Str → List (Str × V)
  | some d, some k => [(k, .int d)]
  | _, _ => []
theorem bdF_of {K : PySem.W.Frag} {x : Str} {st : Stmt} {ps : List Str} {df : Option Int} {kw : Option Str} {f : Addr} {fd : FuncData} {id ar : Nat} (b : BdOk x st ps df kw) (Fu : FunD K x x (defArgs st) (defBody st) (defScope st) (dvsOf df kw) (kwsOf df kw) f fd) : BdF K fd ps ⟨id, ar, df, kw⟩ := by
  cases b with
  | plain h => exact ⟨fun _ => Fu.bindsN h, (fun d z => by cases z), fun k z => by cases z⟩
  | dflt d h h2 =>
    refine ⟨fun _ => ?_, fun d' z => ?_, fun k z => by cases z⟩
    · obtain ⟨ds, r, hb⟩ := Fu.binds1 (ps := ps) ps.length 1 (by simp [dvsOf]) (by simp [dvsOf]) fun T kV doc pm an cdv ct us its l1 l2 => by
        obtain ⟨k, e1, e2⟩ := h2 T kV doc pm an cdv ct us its l1 l2
        refine ⟨k, e1, ?_⟩
        rw [e2, List.drop_eq_nil_of_le (by rw [l2]; exact Nat.le_refl _), List.append_nil]
      cases r
      exact hb
    · cases z
      by_cases hp : 1 ≤ ps.length
      · obtain ⟨ds, r, hb⟩ := Fu.binds1 (ps := ps) (ps.length - 1) 0 (by simp [dvsOf]) (by simp [dvsOf]; omega) fun T kV doc pm an cdv ct us its l1 l2 => by
          obtain ⟨k, e1, e2⟩ := h T kV doc pm an cdv ct us its (by omega) l2
          exact ⟨k, e1, by rw [e2]; rfl⟩
        cases r with
        | cons r1 r2 =>
          cases r2
          exact ⟨_, r1, hb⟩
      · have h0 : ps = [] := List.length_eq_zero_iff.mp (by omega)
        subst h0
        exact ⟨.int d 0, ⟨0, rfl⟩, fun s us _ hl => by simp at hl⟩
  | kwo d k h h2 =>
    refine ⟨(fun z => by cases z), fun d' z => ?_, fun k' z => ?_⟩
    · cases z
      by_cases hp : 1 ≤ ps.length
      · obtain ⟨ds, r, hb⟩ := Fu.binds0 (ps := ps) (ps.length - 1) (by simp [kwsOf]) (by simp [kwsOf]; omega) fun D doc pm an cdv ct us ks l1 l2 => h D doc pm an cdv ct us ks (by omega) l2
        cases r with
        | cons r1 r2 =>
          cases r2
          exact ⟨_, r1, hb⟩
      · have h0 : ps = [] := List.length_eq_zero_iff.mp (by omega)
        subst h0
        exact ⟨.int d 0, ⟨0, rfl⟩, fun s us _ hl => by simp at hl⟩
    · cases z
      intro s us w hK hl
      obtain ⟨mv, kb⟩ := Fu.kbinds0 (ps := ps) (ps.length - 1) [k] [] (fun us _ ws => us ++ ws) (by simp [kwsOf]) (by simp) (fun r1 _ r3 => r1.append r3) fun D doc pm an cdv ct us mv ws l1 l2 l3 => h2 D doc pm an cdv ct us ws (by omega) l3
      exact kb.to s us [w] hK (by omega) rfl
structure DefOk (T : Tab) (P : Nat → Option Fd) (d : DefI) : Prop where
  sc : FnScope d.N d.ps (defScope d.st)
  bd : BdOk d.x d.st d.ps d.df d.kw
  ar : d.ps.length = d.fd.ar
  nn : d.N.length = d.fd.nn
  pr : P d.id = some d.fd
  ck : chkSs T d.N (defScope d.st) d.fd.body (defBody d.st) = true
structure HasExc (K : PySem.W.Frag) (mg : Str → Option Value) (x : Str) (a : Addr) : Prop where
  g : mg x = some (.ref a)
  q : PySem.W.excIn K a [.type "ValueError", .type "Exception", .type "BaseException", .type "object"] "ValueError.__new__" = true
  k : PySem.W.keepIn K (.ref a) = true
  s : PySem.W.subIn K (.ref a) (.type "BaseException") = some true
  t : PySem.W.typeIn K (.ref a) = some (.type "type")
def HasDef (K : PySem.W.Frag) (mg : Str → Option Value) (x : Str) (st : Stmt) (df : Option Int) (kw : Option Str) : Prop := ∃ f fd, mg x = some (.ref f) ∧ FunD K x x (defArgs st) (defBody st) (defScope st) (dvsOf df kw) (kwsOf df kw) f fd
/-- the check of `_law_kin`'s text -/
def kinOk (st : Stmt) (l : List (Str × Str)) : Bool := match kinBody (defBody st) with
  | some m => decide (m.l = l) && kinSc (defScope st) m
  | none => false
/-- a class's refusals may be handled -/
structure HasKin (T : Tab) (ca : Nat → Addr) (K : PySem.W.Frag) (mg : Str → Option Value) (c : Nat) (l : List D) : Prop where
  ex : ∃ st items rows, HasDef K mg (Str.ofString "_law_kin") st none none ∧ FnScope kinN [Str.ofString "e"] (defScope st) ∧ BdOk (Str.ofString "_law_kin") st [Str.ofString "e"] none none ∧ kinOk st items = true ∧ ExcC K (ca c) ∧ KinRows K mg (ca c) items rows ∧ l = (namesOf rows).map D.str
  te : ∀ cT, T.exs.lookup (Str.ofString "TurnError") = some cT → PySem.W.exmOne K (.ref (ca c)) (.ref (ca cT)) = some true
theorem HasKin.to {T : Tab} {ca : Nat → Addr} {X : Cx} {c : Nat} {l : List D} (h : HasKin T ca X.K X.mg c l) (hi : X.mg (Str.ofString "isinstance") = none) : KinX T ca X c l := by
  obtain ⟨st, items, rows, ⟨f, fd, g1, Fu⟩, S, bd, ko, C, hr, el⟩ := h.ex
  refine ⟨⟨namesOf rows, f, fd, el, g1, Fu.kp, ?_, ?_⟩, h.te⟩
  · cases bd with
    | plain hp => exact Fu.bindsN hp
  · unfold kinOk at ko
    split at ko
    · rename_i m em
      simp only [Bool.and_eq_true, decide_eq_true_eq] at ko
      exact kinFn_of Fu S em ko.2 C (by rw [ko.1]; exact hr) hi
    · cases ko
theorem has_def {K : PySem.W.Frag} {mg : Str → Option Value} {h : Heap} {x : Str} {st : Stmt} {f : Addr} {oc : Value} {od an : Option Addr} {osl : Array (Option Value)} {kV doc pm cdv ct : Value} (X : K.In h) (G : h.Ns mainGlobals mg)
    (a : PySem.W.nsIn K mainGlobals x = some (some (.ref f))) (l : K.lookup f = some ⟨oc, od, .func (PySem.W.fnOf x x (defArgs st) (defBody st) (defScope st) .none kV doc pm an cdv ct), osl⟩) (c : PySem.W.codeIn K cdv x = true) (k : PySem.W.keepIn K (.ref f) = true) :
    HasDef K mg x st none none := ⟨f, _, PySem.W.mg_of X G a, ⟨_, _, _, _, _, _, _, _, _, _, rfl, l, c, .inl ⟨rfl, rfl⟩, .inl rfl⟩, k⟩
theorem has_defD {K : PySem.W.Frag} {mg : Str → Option Value} {h : Heap} {x : Str} {st : Stmt} {f T : Addr} {oc oT : Value} {od an oD : Option Addr} {osl oS : Array (Option Value)} {kV doc pm cdv ct : Value} {d : Int} {t : Tok} {n : Nat} (X : K.In h) (G : h.Ns mainGlobals mg)
    (a : PySem.W.nsIn K mainGlobals x = some (some (.ref f))) (l : K.lookup f = some ⟨oc, od, .func (PySem.W.fnOf x x (defArgs st) (defBody st) (defScope st) (.ref T) kV doc pm an cdv ct), osl⟩) (lT : K.lookup T = some ⟨oT, oD, .seq #[.int d t] n, oS⟩)
    (c : PySem.W.codeIn K cdv x = true) (k : PySem.W.keepIn K (.ref f) = true) : HasDef K mg x st (some d) none :=
  ⟨f, _, PySem.W.mg_of X G a, ⟨_, _, _, _, _, _, _, _, _, _, rfl, l, c, .inr ⟨by simp [dvsOf], T, _, [.int d t], n, rfl, lT, rfl, .cons (show RelV (.int d) _ from ⟨t, rfl⟩) .nil⟩, .inl rfl⟩, k⟩
theorem has_defK {K : PySem.W.Frag} {mg : Str → Option Value} {h : Heap} {x kn : Str} {st : Stmt} {f D0 : Addr} {oc : Value} {od an : Option Addr} {osl : Array (Option Value)} {doc pm cdv ct : Value} {d : Int} {t : Tok} (X : K.In h) (G : h.Ns mainGlobals mg)
    (a : PySem.W.nsIn K mainGlobals x = some (some (.ref f))) (l : K.lookup f = some ⟨oc, od, .func (PySem.W.fnOf x x (defArgs st) (defBody st) (defScope st) .none (.ref D0) doc pm an cdv ct), osl⟩) (lD : PySem.W.nsIn K D0 kn = some (some (.int d t)))
    (c : PySem.W.codeIn K cdv x = true) (k : PySem.W.keepIn K (.ref f) = true) : HasDef K mg x st (some d) (some kn) :=
  ⟨f, _, PySem.W.mg_of X G a, ⟨_, _, _, _, _, _, _, _, _, _, rfl, l, c, .inl ⟨rfl, rfl⟩, .inr ⟨D0, rfl, fun q hq => by
    rw [List.mem_singleton.mp hq]
    exact ⟨_, lD, ⟨t, rfl⟩⟩⟩⟩, k⟩
theorem has_exc {K : PySem.W.Frag} {mg : Str → Option Value} {h : Heap} {x : Str} {f : Addr} (X : K.In h) (G : h.Ns mainGlobals mg) (a : PySem.W.nsIn K mainGlobals x = some (some (.ref f)))
    (q : PySem.W.excIn K f [.type "ValueError", .type "Exception", .type "BaseException", .type "object"] "ValueError.__new__" = true) (k : PySem.W.keepIn K (.ref f) = true) (s : PySem.W.subIn K (.ref f) (.type "BaseException") = some true) (t : PySem.W.typeIn K (.ref f) = some (.type "type")) :
    ∃ a, HasExc K mg x a := ⟨f, PySem.W.mg_of X G a, q, k, s, t⟩
theorem with_def {K : PySem.W.Frag} {mg : Str → Option Value} {h : Heap} {x : Str} {st : Stmt} {f : Addr} {oc : Value} {od an : Option Addr} {osl : Array (Option Value)} {kV doc pm cdv ct : Value} {goal : Prop} (X : K.In h) (G : h.Ns mainGlobals mg)
    (a : PySem.W.nsIn K mainGlobals x = some (some (.ref f))) (l : K.lookup f = some ⟨oc, od, .func (PySem.W.fnOf x x (defArgs st) (defBody st) (defScope st) .none kV doc pm an cdv ct), osl⟩) (c : PySem.W.codeIn K cdv x = true) (k : PySem.W.keepIn K (.ref f) = true)
    (r : HasDef K mg x st none none → goal) : goal := r (has_def X G a l c k)
theorem with_defD {K : PySem.W.Frag} {mg : Str → Option Value} {h : Heap} {x : Str} {st : Stmt} {f T : Addr} {oc oT : Value} {od an oD : Option Addr} {osl oS : Array (Option Value)} {kV doc pm cdv ct : Value} {d : Int} {t : Tok} {n : Nat} {goal : Prop} (X : K.In h) (G : h.Ns mainGlobals mg)
    (a : PySem.W.nsIn K mainGlobals x = some (some (.ref f))) (l : K.lookup f = some ⟨oc, od, .func (PySem.W.fnOf x x (defArgs st) (defBody st) (defScope st) (.ref T) kV doc pm an cdv ct), osl⟩) (lT : K.lookup T = some ⟨oT, oD, .seq #[.int d t] n, oS⟩)
    (c : PySem.W.codeIn K cdv x = true) (k : PySem.W.keepIn K (.ref f) = true) (r : HasDef K mg x st (some d) none → goal) : goal := r (has_defD X G a l lT c k)
theorem with_defK {K : PySem.W.Frag} {mg : Str → Option Value} {h : Heap} {x kn : Str} {st : Stmt} {f D0 : Addr} {oc : Value} {od an : Option Addr} {osl : Array (Option Value)} {doc pm cdv ct : Value} {d : Int} {t : Tok} {goal : Prop} (X : K.In h) (G : h.Ns mainGlobals mg)
    (a : PySem.W.nsIn K mainGlobals x = some (some (.ref f))) (l : K.lookup f = some ⟨oc, od, .func (PySem.W.fnOf x x (defArgs st) (defBody st) (defScope st) .none (.ref D0) doc pm an cdv ct), osl⟩) (lD : PySem.W.nsIn K D0 kn = some (some (.int d t)))
    (c : PySem.W.codeIn K cdv x = true) (k : PySem.W.keepIn K (.ref f) = true) (r : HasDef K mg x st (some d) (some kn) → goal) : goal := r (has_defK X G a l lD c k)
theorem with_exc {K : PySem.W.Frag} {mg : Str → Option Value} {h : Heap} {x : Str} {f : Addr} {goal : Prop} (X : K.In h) (G : h.Ns mainGlobals mg) (a : PySem.W.nsIn K mainGlobals x = some (some (.ref f)))
    (q : PySem.W.excIn K f [.type "ValueError", .type "Exception", .type "BaseException", .type "object"] "ValueError.__new__" = true) (k : PySem.W.keepIn K (.ref f) = true) (s : PySem.W.subIn K (.ref f) (.type "BaseException") = some true) (t : PySem.W.typeIn K (.ref f) = some (.type "type"))
    (r : HasExc K mg x f → goal) : goal := r ⟨PySem.W.mg_of X G a, q, k, s, t⟩
theorem with_cls {K : PySem.W.Frag} {mg : Str → Option Value} {h : Heap} {x : Str} {f : Addr} {goal : Prop} (X : K.In h) (G : h.Ns mainGlobals mg) (a : PySem.W.nsIn K mainGlobals x = some (some (.ref f))) (r : mg x = some (.ref f) → goal) : goal := r (PySem.W.mg_of X G a)
theorem with_excC {K : PySem.W.Frag} {mg : Str → Option Value} {x : Str} {D : Addr} {goal : Prop} (_e : HasExc K mg x D) (h0 : PySem.W.findIn K (.ref D) "__getattribute__" = some (some (.builtin "BaseException.__getattribute__"))) (h1 : PySem.W.findIn K (.ref D) "__getattr__" = some none) (h2 : PySem.W.subIn K (.ref D) (.type "BaseException") = some true) (h3 : PySem.W.hasDictIn K D = true)
    (h4 : PySem.W.findIn K (.ref D) "__class__" = some (some (.builtin "object.__class__"))) (h5 : PySem.W.specialIn K (.builtin "object.__class__") "__get__" = some (some (.builtin "getset_descriptor.__get__"))) (h6 : PySem.W.takesIn K (.builtin "object.__class__") = some true) (h7 : PySem.W.mroIn K D (.type "object") = some true) (r : ExcC K D → goal) : goal := r ⟨h0, h1, h2, h3, h4, h5, h6, h7⟩
structure IsCls (K : PySem.W.Frag) (C : Addr) : Prop where
  d : PySem.W.hasDictIn K C = true
  t : PySem.W.typeIn K (.ref C) = some (.type "type")
theorem kit_same {K : PySem.W.Frag} {D : Addr} : PySem.W.kitOne K (.ref D) (.ref D) = some true := by
  unfold PySem.W.kitOne
  rw [if_pos (by simp)]
theorem kit_ne {K : PySem.W.Frag} {D C : Addr} {b : Bool} (n : ((Value.ref D) == (Value.ref C)) = false) (c : IsCls K C) (s : PySem.W.subIn K (.ref D) (.ref C) = some b) : PySem.W.kitOne K (.ref D) (.ref C) = some b := by
  unfold PySem.W.kitOne
  rw [if_neg (by rw [n]; decide)]
  obtain ⟨cd, hc, _⟩ := PySem.W.any_some c.d
  show (if ((PySem.W.clsIn K C).isSome && PySem.W.typeIn K (.ref C) == some (.type "type")) = true then PySem.W.subIn K (.ref D) (.ref C) else none) = some b
  have e2 : ((PySem.W.clsIn K C).isSome && PySem.W.typeIn K (.ref C) == some (.type "type")) = true := by rw [hc, c.t] <;> rfl
  rw [if_pos e2]
  exact s
theorem kit_ty {K : PySem.W.Frag} {D : Addr} {n : String} {b : Bool} (m : PySem.W.kitMeta n = true) (s : PySem.W.subIn K (.ref D) (.type n) = some b) : PySem.W.kitOne K (.ref D) (.type n) = some b := by
  unfold PySem.W.kitOne
  rw [if_neg (by simp)]
  show (if PySem.W.kitMeta n = true then PySem.W.subIn K (.ref D) (.type n) else none) = some b
  rw [if_pos m]
  exact s
theorem with_isc {K : PySem.W.Frag} {mg : Str → Option Value} {h : Heap} {x : Str} {C : Addr} {goal : Prop} (_X : K.In h) (_g : mg x = some (.ref C)) (d : PySem.W.hasDictIn K C = true) (t : PySem.W.typeIn K (.ref C) = some (.type "type")) (r : IsCls K C → goal) : goal := r ⟨d, t⟩
theorem cls_ref {mg : Str → Option Value} {x : Str} {C : Addr} (g : mg x = some (.ref C)) : ClsVal mg x (.ref C) (.ref C) := ⟨rfl, fun _ h => h, .inl g⟩
theorem with_rows {K : PySem.W.Frag} {mg : Str → Option Value} {x : Str} {D : Addr} {l : List (Str × Str)} {r : List (Str × Bool)} {goal : Prop} (_e : HasExc K mg x D) (h : KinRows K mg D l r) (k : KinRows K mg D l r → goal) : goal := k h
theorem with_te {K : PySem.W.Frag} {mg : Str → Option Value} {x y : Str} {D t : Addr} {goal : Prop} (_e : HasExc K mg x D) (_t : HasExc K mg y t) (c : IsCls K t) (h : PySem.W.subIn K (.ref D) (.ref t) = some true) (k : PySem.W.exmOne K (.ref D) (.ref t) = some true → goal) : goal := k (PySem.W.exm_ref _t.s c.d c.t h)
theorem with_none {K : PySem.W.Frag} {mg : Str → Option Value} {h : Heap} {x : Str} {goal : Prop} (X : K.In h) (G : h.Ns mainGlobals mg) (a : PySem.W.nsIn K mainGlobals x = some none) (r : mg x = none → goal) : goal := r (PySem.W.mg_none_of X G a)
section
variable {T : Tab} {P : Nat → Option Fd} {C : Nat → D} {ca : Nat → Addr} {defs : List DefI} {pr : Program} {w : World} {K : PySem.W.Frag} {mg : Str → Option Value} {base : Heap}
def fnTab (defs : List DefI) : List (Str × FnI) := defs.map fun d => (d.x, ⟨d.id, d.fd.ar, d.df, d.kw⟩)
theorem fnTab_at {g : Str} {fi : FnI} : ∀ {defs : List DefI}, (fnTab defs).lookup g = some fi → ∃ d ∈ defs, d.x = g ∧ fi = ⟨d.id, d.fd.ar, d.df, d.kw⟩
  | [], h => by cases h
  | d :: ds, h => by
    simp only [fnTab, List.map_cons, List.lookup_cons] at h
    split at h
    · rename_i q
      exact ⟨d, List.mem_cons_self, (beq_iff_eq.mp q).symm, (Option.some.inj h).symm⟩
    · obtain ⟨e, h1, h2⟩ := fnTab_at (defs := ds) h
      exact ⟨e, List.mem_cons_of_mem _ h1, h2⟩
theorem call_ar {n f : Nat} {vs : List D} {fd : Fd} (hp : P f = some fd) (h : call P C n f vs ≠ .stk) : vs.length = fd.ar := by
  cases n with
  | zero => exact absurd rfl h
  | succ n =>
    simp only [call, hp] at h
    by_cases q : vs.length = fd.ar
    · exact q
    · rw [if_neg q] at h; exact absurd rfl h
theorem start_get {fd : Fd} {vs : List D} {i : Nat} {s : Sl} (h : (start fd vs)[i]? = some s) : (∃ d, vs[i]? = some d ∧ s = .sh d) ∨ s = .un := by
  unfold start at h
  by_cases hi : i < (vs.map Sl.sh).length
  · rw [List.getElem?_append_left hi, List.getElem?_map] at h
    cases q : vs[i]? with
    | none => rw [q] at h; cases h
    | some d => rw [q] at h; exact .inl ⟨d, rfl, (Option.some.inj h).symm⟩
  · rw [List.getElem?_append_right (Nat.le_of_not_lt hi), List.getElem?_replicate] at h
    split at h
    · exact .inr (Option.some.inj h).symm
    · cases h
theorem defs_ok (hT : T.fns = fnTab defs) (hd : ∀ d ∈ defs, DefOk T P d) (hh : ∀ d ∈ defs, HasDef K mg d.x d.st d.df d.kw) (hb : ∀ x ∈ bltNames, mg x = none)
    (hc : ∀ g i, T.cns.lookup g = some i → ∃ v u, mg g = some u ∧ RelV v u ∧ ∀ F H, Rep K F H v (C i)) (he : ∀ x c, T.exs.lookup x = some c → HasExc K mg x (ca c)) (hkn : ∀ c l, kinOf (C c) = some l → HasKin T ca K mg c l) :
    ∀ (n : Nat) (d : DefI), d ∈ defs → ∀ (f : Addr) (fd : FuncData), FunD K d.x d.x (defArgs d.st) (defBody d.st) (defScope d.st) (dvsOf d.df d.kw) (kwsOf d.df d.kw) f fd → FnOk pr w K mg base (L2N.CX pr w) n f fd d.ps (spF K ca (call P C n d.id) d.fd.ar)
  | 0, d, hm, f, fd, Fu => by
    have no : ∀ {vs H Q E}, ¬ spF K ca (call P C 0 d.id) d.fd.ar vs H Q E := fun {vs H Q E} h => by
      obtain ⟨_, _, _, _, _, o⟩ := h
      exact o
    exact ⟨fun vs H Q E h => absurd h no, fun A outer s H args us vs Q E _ _ _ _ h => absurd h no⟩
  | n + 1, d, hm, f, fd, Fu => by
    have ih := defs_ok hT hd hh hb hc he hkn n
    have D0 := hd d hm
    refine Fu.ok D0.sc (fun vs H Q E h => ?_) (fun cdv A outer s H vs Q E hr h => ?_)
    · obtain ⟨F, ds, _, r, l, _⟩ := h
      rw [r.length, l, D0.ar]
    obtain ⟨F, ds, dm, r, l, o⟩ := h
    let X := cxOf (L2N.CX pr w) pr w K mg base d.N d.x (defScope d.st) f cdv A outer s H E
    have tk : L2N.Takes X (fun cls d' _ H' => E cls d' H') := L2N.takes_of rfl rfl rfl rfl
    have G : GD T d.N n (call P C n) C ca (defScope d.st) X (fun cls d' _ H' => E cls d' H') :=
      { gx := {
          names := rfl
          scope := rfl
          fnc := fun _ _ => rfl
          calm := rfl
          nd := D0.sc.nd
          room := hr
          blt := hb
          fns := fun g fi h => by
            rw [hT] at h
            obtain ⟨d', m', e1, e2⟩ := fnTab_at h
            obtain ⟨f', fd', g1, Fu'⟩ := hh d' m'
            subst e1 e2
            exact ⟨⟨f', fd', d'.ps, g1, Fu'.kp, bdF_of (hd d' m').bd Fu', (hd d' m').ar, ih d' m' f' fd' Fu'⟩, fun l hl => call_ar (hd d' m').pr hl⟩
          cns := hc
          pass := fun σ => L2N.passAt tk σ }
        own := passes_of rfl
        tk := tk
        fkind := D0.sc.kind
        exs := fun x c h => ⟨(he x c h).g, (he x c h).q, (he x c h).k, raises_own (he x c h).s (he x c h).t⟩
        kn := fun c l h => (hkn c l h).to (hb _ (by decide +kernel))
        stk := ⟨rfl, rfl⟩ }
    refine ⟨_, ok_Ss d.fd.body (defBody d.st) (defScope d.st) X _ G D0.ck ⟨F, H, fun _ => none⟩, ?_⟩
    refine ⟨Rv.start d.fd ds, F, ⟨?_, Ext.refl, dm, dm, fun i s e => ?_, fun i j di dj e1 _ _ => ?_, fun _ _ z => by cases z⟩, ?_⟩
    · show (L2.start d.N vs).length = _
      unfold L2.start Rv.start
      simp only [List.length_append, List.length_map, List.length_replicate]
      rw [r.length, D0.nn]
    · rcases start_get e with ⟨dd, e1, rfl⟩ | rfl
      · obtain ⟨v, e2, r2⟩ := r.get e1
        refine ⟨v, ?_, r2⟩
        have hi := (List.getElem?_eq_some_iff.mp e2).1
        unfold L2.start
        rw [List.getElem?_append_left (by rw [List.length_map]; exact hi), List.getElem?_map, e2]
        rfl
      · trivial
    · rcases start_get e1 with ⟨dd, _, z⟩ | z <;> cases z
    · simp only [call, D0.pr, l, if_pos rfl] at o
      cases e : exSs (call P C n) C d.fd.body (Rv.start d.fd ds) with
      | nx ρ' =>
        rw [e] at o
        exact fun σ' F' H' st' sb p' => o .non F' H' st'.ext .non
      | ret dd =>
        rw [e] at o
        exact fun v F' H' e' r' => o v F' H' e' r'
      | exc c ρ' =>
        rw [e] at o
        exact fun σ' F' H' st' sb p' => o F' H' st'.ext
      | bk ρ' => rw [e] at o; exact o.elim
      | ct ρ' => rw [e] at o; exact o.elim
      | stk => rw [e] at o; exact o.elim
/-- the law's def: it answers True -/
def spO (K : PySem.W.Frag) (Φ : List D → R D) : Sp := fun vs H Q _ => ∃ F ds, Dom F H ∧ Reps K F H vs ds ∧ ds.length = 1 ∧ Oc (rSh K) noW F H Q (Φ ds)
theorem spO_spF {K : PySem.W.Frag} {ca : Nat → Addr} {Φ : List D → R D} (vs : List V) (H : Hp) (Q : VK) (E : XK) (h : spO K Φ vs H Q E) : spF K ca Φ 1 vs H Q E := by
  obtain ⟨F, ds, dm, r, l, o⟩ := h
  refine ⟨F, ds, dm, r, l, ?_⟩
  cases e : Φ ds with
  | ok d => rw [e] at o; exact o
  | exc c => rw [e] at o; exact (o F H Ext.refl).elim
  | stk => rw [e] at o; exact o.elim
theorem reps_ints {K : PySem.W.Frag} {F : Addr → Prop} {H : Hp} : ∀ ns : List Int, Reps K F H (ns.map V.int) (ns.map D.int)
  | [] => .nil
  | n :: ns => .cons (.int n) (reps_ints ns)
/-- what a row's end asks of the text behind the top -/
structure TopOk (T : Tab) (C : Nat → D) (defs : List DefI) (K : PySem.W.Frag) (mg : Str → Option Value) : Prop where
  ex : ∃ ca : Nat → Addr, (∀ x c, T.exs.lookup x = some c → HasExc K mg x (ca c)) ∧ ∀ c l, kinOf (C c) = some l → HasKin T ca K mg c l
  hh : ∀ d ∈ defs, HasDef K mg d.x d.st d.df d.kw
  hb : ∀ x ∈ bltNames, mg x = none
  hc : ∀ g i, T.cns.lookup g = some i → ∃ v u, mg g = some u ∧ RelV v u ∧ ∀ F H, Rep K F H v (C i)
theorem run_law {l : PySem.W.OpenLaw} {q : Program} {loose : List Str} {XP : (Str → Option Value) → Heap → Prop} {YP : World → Heap → Prop} {d : DefRec} {K : Params → PySem.W.Frag} {k : Nat} {dl : DefI} (hT : T.fns = fnTab defs) (hd : ∀ d ∈ defs, DefOk T P d)
    (hm : dl ∈ defs) (hps : dl.ps = [("script" : Str)]) (hdk : dl.df = none ∧ dl.kw = none) (hdn : d.name = dl.x) (hlaw : ∀ ns : List Int, ns.length ≤ 63 → call P C k dl.id [.lst (ns.map .int)] = .ok (.bl true)) (hn : l.most = some 63) (hdf : d.params.defaults = []) (hr : Room k callerA)
    (hY : ∀ (w : World) (h : Heap), YP w h → (K w.params).In h)
    (F : ∀ (w : World) (mg : Str → Option Value) (h : Heap), (K w.params).In h → h.Ns mainGlobals mg → TopOk T C defs (K w.params) mg) :
    PySem.W.WalkO q loose XP YP l.row.toRowW d [] (fun f vs => PySem.call f vs) := by
  refine L2.walk_of (n := 63) (k := k) (x := "script") (CX := fun w => L2N.CX l.prog w) (sp := fun w => spO (K w.params) (call P C k dl.id)) hn (by decide) hdf hr hY (fun w mg fa h KX G hfa => ?_) (fun w H a ns hl hO hS => ?_) fun w H s e s' z => ?_
  · obtain ⟨⟨ca, he, hkn⟩, hh, hb, hc⟩ := F w mg h KX G
    obtain ⟨f, fd, g1, Fu⟩ := hh dl hm
    have ef : f = fa := by
      rw [hdn, g1] at hfa
      cases hfa; rfl
    subst ef
    have D0 := hd dl hm
    have ar1 : dl.fd.ar = 1 := by rw [← D0.ar, hps]; rfl
    refine ⟨fd, fun s v => ?_, fun base _ _ => ?_⟩
    · have bd := D0.bd
      rw [hdk.1, hdk.2] at bd Fu
      rw [hps] at bd
      cases bd with
      | plain hp => exact Fu.bindsA hp s [v] rfl
    · have z := defs_ok (pr := l.prog) (w := w) (base := base) hT hd hh hb hc he hkn k dl hm f fd Fu
      rw [ar1, hps] at z
      exact z.imp spO_spF
  · have r := reps_ints (K := K w.params) (F := fun _ => False) (H := H) ns
    have hls : LsAt (K w.params) (fun _ => False) H a (ns.map V.int) := by
      rcases hS with (h | h) | h
      · rcases hO a with z | ⟨o, xs, z⟩ <;> rw [z] at h <;> cases h
      · exact .inr (.inl h)
      · exact .inr (.inr h)
    refine ⟨fun _ => False, [.lst (ns.map .int)], fun _ z => z.elim, .cons (.lst hls r) .nil, rfl, ?_⟩
    rw [hlaw ns hl]
    intro v F' H' _ r'
    cases r'
    rfl
  · obtain ⟨_, _, _, _, _, _, _, _, _, _, _, _, z⟩ := z
    exact z
end
end Rv
/-! Evaluation by simp; loops. -/
namespace Rv
open PySem L2
def fin : Out → R D
  | .nx _ => .ok .non
  | .ret d => .ok d
  | .exc c _ => .exc c
  | _ => .stk
@[simp] theorem fin_ret (d : D) : fin (.ret d) = .ok d := rfl
@[simp] theorem fin_nx (ρ : Env) : fin (.nx ρ) = .ok .non := rfl
@[simp] theorem fin_exc (c : Nat) (ρ : Env) : fin (.exc c ρ) = .exc c := rfl
theorem call_run {P : Nat → Option Fd} {C : Nat → D} {n f : Nat} {vs : List D} {fd : Fd} (hp : P f = some fd) (hl : vs.length = fd.ar) {ρ : Env} (hρ : start fd vs = ρ) {d : R D} (h : fin (exSs (call P C n) C fd.body ρ) = d) : call P C (n + 1) f vs = d := by
  subst hρ
  simp only [call, hp, hl, if_pos rfl]
  rw [← h]
  cases exSs (call P C n) C fd.body (start fd vs) <;> rfl
section
variable {Φ : Nat → List D → R D} {C : Nat → D} {ρ : Env} {x : Bool}
@[simp] theorem ev_var {i : Nat} : ev Φ C ρ x (.var i) = match ρ[i]? with | some (.sh d) => .ok d | some (.own (.lst l)) => if x then .ok (.lst l) else .stk | _ => .stk := by simp only [ev] <;> rfl
@[simp] theorem ev_glb {g : Nat} : ev Φ C ρ x (.glb g) = .ok (C g) := by simp only [ev]
@[simp] theorem ev_non : ev Φ C ρ x .non = .ok .non := by simp only [ev]
@[simp] theorem ev_bl {b : Bool} : ev Φ C ρ x (.bl b) = .ok (.bl b) := by simp only [ev]
@[simp] theorem ev_int {i : Int} : ev Φ C ρ x (.int i) = .ok (.int i) := by simp only [ev]
@[simp] theorem ev_str {i : Str} : ev Φ C ρ x (.str i) = .ok (.str i) := by simp only [ev]
@[simp] theorem ev_bin {o : Bo} {a b : Ex} : ev Φ C ρ x (.bin o a b) = (ev Φ C ρ true a).bind fun u => (ev Φ C ρ true b).bind fun v => bin o u v := by simp only [ev]
@[simp] theorem ev_neg {a : Ex} : ev Φ C ρ x (.neg a) = ofInt (ev Φ C ρ false a) fun i => .ok (.int (-i)) := by simp only [ev]
@[simp] theorem ev_cmp {o : Co} {a b : Ex} : ev Φ C ρ x (.cmp o a b) = (ev Φ C ρ true a).bind fun u => (ev Φ C ρ true b).bind fun v => ofB (cmpV o u v) := by simp only [ev]
@[simp] theorem ev_cmp2 {o o' : Co} {a b c : Ex} : ev Φ C ρ x (.cmp2 o o' a b c) = (ev Φ C ρ false a).bind fun x => (ev Φ C ρ false b).bind fun y => (cmpV o x y).bind fun k => if k then (ev Φ C ρ false c).bind fun z => ofB (cmpV o' y z) else .ok (.bl false) := by simp only [ev]
@[simp] theorem ev_and {a b : Ex} : ev Φ C ρ x (.and a b) = (truB (ev Φ C ρ false a)).bind fun k => if k then ofB (truB (ev Φ C ρ false b)) else .ok (.bl false) := by simp only [ev]
@[simp] theorem ev_or {a b : Ex} : ev Φ C ρ x (.or a b) = (truB (ev Φ C ρ false a)).bind fun k => if k then .ok (.bl true) else ofB (truB (ev Φ C ρ false b)) := by simp only [ev]
@[simp] theorem ev_not {a : Ex} : ev Φ C ρ x (.not a) = (truB (ev Φ C ρ false a)).bind fun k => .ok (.bl (!k)) := by simp only [ev]
@[simp] theorem ev_ite {c a b : Ex} : ev Φ C ρ x (.ite c a b) = (truB (ev Φ C ρ false c)).bind fun k => if k then ev Φ C ρ false a else ev Φ C ρ false b := by simp only [ev]
@[simp] theorem ev_tup {es : Exs} : ev Φ C ρ x (.tup es) = (evs Φ C ρ false es).bind fun l => if l.length ≤ LL then .ok (.tup l) else .stk := by simp only [ev]
@[simp] theorem ev_lst {es : Exs} : ev Φ C ρ x (.lst es) = (evs Φ C ρ false es).bind fun l => if l.length ≤ LL then .ok (.lst l) else .stk := by simp only [ev]
@[simp] theorem ev_idx {a i : Ex} : ev Φ C ρ x (.idx a i) = (ev Φ C ρ true a).bind fun u => (ev Φ C ρ false i).bind fun v => idxV u v := by simp only [ev]
@[simp] theorem ev_slc {a : Ex} {l h : Eo} : ev Φ C ρ x (.slc a l h) = (ev Φ C ρ true a).bind fun u => (evo Φ C ρ l).bind fun v => (evo Φ C ρ h).bind fun w => slcV u v w := by simp only [ev]
@[simp] theorem ev_slcS {a : Ex} {s : Eo} : ev Φ C ρ x (.slcS a s) = (ev Φ C ρ true a).bind fun u => (evo Φ C ρ s).bind fun v => slcSV u v := by simp only [ev]
@[simp] theorem ev_call {f : Nat} {es : Exs} : ev Φ C ρ x (.call f es) = (evs Φ C ρ false es).bind fun l => Φ f l := by simp only [ev]
@[simp] theorem ev_callD {f : Nat} {es : Exs} {d : Int} : ev Φ C ρ x (.callD f es d) = (evs Φ C ρ false es).bind fun l => Φ f (l ++ [.int d]) := by simp only [ev]
@[simp] theorem ev_callK {f : Nat} {es : Exs} {e : Ex} : ev Φ C ρ x (.callK f es e) = (evs Φ C ρ false es).bind fun l => (ev Φ C ρ false e).bind fun v => Φ f (l ++ [v]) := by simp only [ev]
@[simp] theorem ev_bfn {b : Bf} {es : Exs} : ev Φ C ρ x (.bfn b es) = (evs Φ C ρ true es).bind fun l => bfn b l := by simp only [ev]
@[simp] theorem ev_isi {a : Ex} {ts : List Ty} : ev Φ C ρ x (.isi a ts) = (ev Φ C ρ false a).bind fun u => ofB (anyTy ts u) := by simp only [ev]
theorem ev_comp {e : Ex} {t : Tg} {s : Src} {c : Eo} {ws : List Nat} : ev Φ C ρ x (.comp e t s c ws) = (evi Φ C ρ true s).bind fun l => if l.length ≤ LL then (compL (fun x => setT t x (wipeE ρ ws)) (fun ρ' => (evc Φ C ρ' c).nox) (fun ρ' => (ev Φ C ρ' false e).nox) l).bind fun ys => .ok (.lst ys) else .stk := by simp only [ev]
@[simp] theorem ev_dix {i : Nat} {k : Ex} : ev Φ C ρ x (.dix i k) = (dV ρ i).bind fun t => (ev Φ C ρ false k).bind fun y => (getT t y).bind fun o => match o with | some d => .ok d | none => .stk := by simp only [ev] <;> rfl
@[simp] theorem ev_dgt {i : Nat} {k d : Ex} : ev Φ C ρ x (.dgt i k d) = (dV ρ i).bind fun t => (ev Φ C ρ false k).bind fun y => (ev Φ C ρ false d).bind fun z => (getT t y).bind fun o => .ok (o.getD z) := by simp only [ev]
@[simp] theorem ev_dso {i : Nat} : ev Φ C ρ x (.dso i) = (dV ρ i).bind srtD := by simp only [ev]
@[simp] theorem ev_sset {a : Ex} : ev Φ C ρ x (.sset a) = (ev Φ C ρ true a).bind fun u => match u with | .lst l => setT1 l | _ => .stk := by simp only [ev] <;> rfl
@[simp] theorem ev_maxd {a d : Ex} : ev Φ C ρ x (.maxd a d) = (ev Φ C ρ true a).bind fun u => (ev Φ C ρ false d).bind fun z => match u with | .lst [] => .ok z | .lst l => maxL l | _ => .stk := by simp only [ev] <;> rfl
@[simp] theorem ev_inn {n : Bool} {a b : Ex} : ev Φ C ρ x (.inn n a b) = (ev Φ C ρ false a).bind fun u => (ev Φ C ρ true b).bind fun v => (inV u v).bind fun k => .ok (.bl (k != n)) := by simp only [ev]
@[simp] theorem evs_nil : evs Φ C ρ x .nil = .ok [] := by simp only [evs]
@[simp] theorem evs_cons {e : Ex} {es : Exs} : evs Φ C ρ x (.cons e es) = (ev Φ C ρ x e).bind fun v => (evs Φ C ρ x es).bind fun l => .ok (v :: l) := by simp only [evs]
@[simp] theorem evo_no : evo Φ C ρ .no = .ok none := by simp only [evo]
@[simp] theorem evo_yes {e : Ex} : evo Φ C ρ (.yes e) = match ev Φ C ρ false e with | .ok (.int i) => .ok (some i) | .exc c => .exc c | _ => .stk := by simp only [evo] <;> rfl
@[simp] theorem evc_no : evc Φ C ρ .no = .ok true := by simp only [evc]
@[simp] theorem evc_yes {e : Ex} : evc Φ C ρ (.yes e) = truB (ev Φ C ρ false e) := by simp only [evc]
@[simp] theorem evi_it {e : Ex} : evi Φ C ρ x (.it e) = (ev Φ C ρ x e).bind itemsV := by simp only [evi]
@[simp] theorem evi_rng {es : Exs} : evi Φ C ρ x (.rng es) = (evs Φ C ρ false es).bind rngV := by simp only [evi]
@[simp] theorem evi_enm {e : Ex} : evi Φ C ρ x (.enm e) = (ev Φ C ρ x e).bind enmV := by simp only [evi]
@[simp] theorem evi_zip {a b : Ex} : evi Φ C ρ x (.zip a b) = (ev Φ C ρ x a).bind fun u => (ev Φ C ρ x b).bind fun v => zipV u v := by simp only [evi]
@[simp] theorem exSs_nil : exSs Φ C .nil ρ = .nx ρ := by simp only [exSs]
@[simp] theorem exSs_frz {i : Nat} {ss : Ss} : exSs Φ C (.frz i ss) ρ = exSs Φ C ss (frzE i ρ) := by simp only [exSs]
@[simp] theorem exSs_cons {s : S} {ss : Ss} : exSs Φ C (.cons s ss) ρ = match exS Φ C s ρ with | .nx ρ' => exSs Φ C ss ρ' | o => o := by simp only [exSs] <;> rfl
@[simp] theorem exS_asg {i : Nat} {e : Ex} {fr : Bool} : exS Φ C (.asg i e fr) ρ = Out.ofR ρ (ev Φ C ρ false e) fun d => Out.ofR ρ (stE ρ i (mkSl fr d)) .nx := by simp only [exS]
@[simp] theorem exS_unp {t : Tg} {e : Ex} : exS Φ C (.unp t e) ρ = Out.ofR ρ (ev Φ C ρ false e) fun d => Out.ofR ρ (setT t d ρ) .nx := by simp only [exS]
@[simp] theorem exS_par {i j : Nat} {a b : Ex} : exS Φ C (.par i j a b) ρ = Out.ofR ρ (ev Φ C ρ false a) fun x => Out.ofR ρ (ev Φ C ρ false b) fun y => Out.ofR ρ ((stE ρ i (.sh x)).bind fun ρ' => stE ρ' j (.sh y)) .nx := by simp only [exS]
@[simp] theorem exS_par3 {i j l : Nat} {a b c : Ex} : exS Φ C (.par3 i j l a b c) ρ = Out.ofR ρ (ev Φ C ρ false a) fun x => Out.ofR ρ (ev Φ C ρ false b) fun y => Out.ofR ρ (ev Φ C ρ false c) fun z => Out.ofR ρ ((stE ρ i (.sh x)).bind fun ρ' => (stE ρ' j (.sh y)).bind fun ρ'' => stE ρ'' l (.sh z)) .nx := by simp only [exS]
@[simp] theorem exS_aug {i : Nat} {o : Bo} {e : Ex} : exS Φ C (.aug i o e) ρ = shV ρ i fun x => Out.ofR ρ (ev Φ C ρ false e) fun y => Out.ofR ρ (augV o x y) fun z => .nx (ρ.set i (.sh z)) := by simp only [exS]
@[simp] theorem exS_app {i : Nat} {e : Ex} : exS Φ C (.app i e) ρ = ownL ρ i fun l => Out.ofR ρ (ev Φ C ρ false e) fun d => if l.length < LL then .nx (ρ.set i (.own (.lst (l ++ [d])))) else .stk := by simp only [exS]
@[simp] theorem exS_setI {i : Nat} {k e : Ex} : exS Φ C (.setI i k e) ρ = ownL ρ i fun l => Out.ofR ρ (ev Φ C ρ false e) fun d => Out.ofR ρ (ev Φ C ρ false k) fun z => Out.ofR ρ (ixV l.length z) fun j => .nx (ρ.set i (.own (.lst (l.set j d)))) := by simp only [exS]
@[simp] theorem exS_augI {i : Nat} {k e : Ex} {o : Bo} : exS Φ C (.augI i k o e) ρ = ownL ρ i fun l => Out.ofR ρ (ev Φ C ρ false k) fun z => Out.ofR ρ (ixV l.length z) fun j => Out.ofR ρ (getV l j) fun x =>
      Out.ofR ρ (ev Φ C ρ false e) fun y => Out.ofR ρ (augV o x y) fun w => .nx (ρ.set i (.own (.lst (l.set j w)))) := by simp only [exS]
@[simp] theorem exS_ife {c : Ex} {a b : Ss} : exS Φ C (.ife c a b) ρ = Out.ofR ρ (truB (ev Φ C ρ false c)) fun k => if k then exSs Φ C a ρ else exSs Φ C b ρ := by simp only [exS]
theorem exS_for {t : Tg} {s : Src} {b : Ss} : exS Φ C (.for_ t s b) ρ = Out.ofR ρ (evi Φ C ρ false s) fun l => forL (fun x ρ' => setT t x ρ') (fun ρ' => exSs Φ C b ρ') l ρ := by simp only [exS]
theorem exS_forE {t : Tg} {i : Nat} {b : Ss} : exS Φ C (.forE t i b) ρ = ownL ρ i fun l => Out.back i (.own (.lst l)) (forL (fun x ρ' => setT t x ρ') (fun ρ' => exSs Φ C b ρ') (enmL l) (ρ.set i .lk)) := by simp only [exS]
theorem exS_whl {c : Ex} {b : Ss} : exS Φ C (.whl c b) ρ = whlR (fun ρ' => truB (ev Φ C ρ' false c)) (fun ρ' => exSs Φ C b ρ') ρ := by simp only [exS]
@[simp] theorem exS_ret {e : Ex} : exS Φ C (.ret e) ρ = Out.ofR ρ (ev Φ C ρ false e) fun d => .ret d := by simp only [exS]
@[simp] theorem exS_rse {c : Nat} : exS Φ C (.rse c) ρ = .exc c ρ := by simp only [exS]
@[simp] theorem exS_exp {e : Ex} : exS Φ C (.exp e) ρ = Out.ofR ρ (ev Φ C ρ false e) fun _ => .nx ρ := by simp only [exS]
theorem exS_tryK {b : Ss} {e k : Nat} : exS Φ C (.tryK b e k) ρ = (match exSs Φ C b ρ with | .exc c ρ' => (match kinOf (C c) with | some l => Out.ofR ρ' ((stE ρ' e .un).bind fun ρ'' => stE ρ'' k (.sh (.lst l))) .nx | none => .stk) | o => o) := by simp only [exS] <;> rfl
@[simp] theorem exS_dnw {i : Nat} {t : Bool} : exS Φ C (.dnw i t) ρ = Out.ofR ρ (stE ρ i (.own (if t then .dT [] else .dK []))) .nx := by simp only [exS]
@[simp] theorem exS_dst {i : Nat} {k e : Ex} : exS Φ C (.dst i k e) ρ = Out.ofR ρ (dO ρ i) fun t => Out.ofR ρ (ev Φ C ρ false e) fun d => Out.ofR ρ (ev Φ C ρ false k) fun z => Out.ofR ρ (putT t z d) fun t' => .nx (ρ.set i (.own t')) := by simp only [exS]
@[simp] theorem exS_parO {i j : Nat} {a b : Ex} {f g : Bool} : exS Φ C (.parO i j a b f g) ρ = Out.ofR ρ (ev Φ C ρ false a) fun x => Out.ofR ρ (ev Φ C ρ false b) fun y => Out.ofR ρ ((stE ρ i (mkSl f x)).bind fun ρ' => stE ρ' j (mkSl g y)) .nx := by simp only [exS]
@[simp] theorem exS_par3O {i j l : Nat} {a b c : Ex} {f g h : Bool} : exS Φ C (.par3O i j l a b c f g h) ρ = Out.ofR ρ (ev Φ C ρ false a) fun x => Out.ofR ρ (ev Φ C ρ false b) fun y => Out.ofR ρ (ev Φ C ρ false c) fun z => Out.ofR ρ ((stE ρ i (mkSl f x)).bind fun ρ' => (stE ρ' j (mkSl g y)).bind fun ρ'' => stE ρ'' l (mkSl h z)) .nx := by simp only [exS]
@[simp] theorem exS_brk : exS Φ C .brk ρ = .bk ρ := by simp only [exS]
@[simp] theorem exS_cnt : exS Φ C .cnt ρ = .ct ρ := by simp only [exS]
@[simp] theorem exS_pas : exS Φ C .pas ρ = .nx ρ := by simp only [exS]
end
@[simp] theorem setT_var {i : Nat} {d : D} {ρ : Env} : setT (.var i) d ρ = stE ρ i (.sh d) := by simp only [setT]
@[simp] theorem setT_tt {ts : Tgs} {ds : List D} {ρ : Env} : setT (.tup ts) (.tup ds) ρ = setTs ts ds ρ := by simp only [setT]
@[simp] theorem setT_tl {ts : Tgs} {ds : List D} {ρ : Env} : setT (.tup ts) (.lst ds) ρ = setTs ts ds ρ := by simp only [setT]
@[simp] theorem setTs_nil {ρ : Env} : setTs .nil [] ρ = .ok ρ := by simp only [setTs]
@[simp] theorem setTs_cons {t : Tg} {ts : Tgs} {d : D} {ds : List D} {ρ : Env} : setTs (.cons t ts) (d :: ds) ρ = (setT t d ρ).bind fun ρ' => setTs ts ds ρ' := by simp only [setTs]
@[simp] theorem mkSl_sh {d : D} : mkSl false d = .sh d := by cases d <;> rfl
@[simp] theorem mkSl_l {l : List D} : mkSl true (.lst l) = .own (.lst l) := rfl
@[simp] theorem bin_add {i j : Int} : bin .add (.int i) (.int j) = .ok (.int (i + j)) := rfl
@[simp] theorem bin_sub {i j : Int} : bin .sub (.int i) (.int j) = .ok (.int (i - j)) := rfl
theorem bin_mul {i j : Int} (h : mulOk i j) : bin .mul (.int i) (.int j) = .ok (.int (i * j)) := if_pos h
theorem bin_fdv {i j : Int} (h : divOk j) : bin .fdv (.int i) (.int j) = .ok (.int (i.fdiv j)) := if_pos h
theorem bin_mod {i j : Int} (h : j ≠ 0) : bin .mod (.int i) (.int j) = .ok (.int (i.fmod j)) := if_pos h
theorem bin_pow {i j : Int} (h : powOk i j) : bin .pow (.int i) (.int j) = .ok (.int (i ^ j.toNat)) := if_pos h
theorem bin_cat {a b : List D} (h : a.length + b.length ≤ LL) : bin .add (.lst a) (.lst b) = .ok (.lst (a ++ b)) := if_pos h
@[simp] theorem cmp_lt {i j : Int} : cmpV .lt (.int i) (.int j) = .ok (decide (i < j)) := rfl
@[simp] theorem cmp_le {i j : Int} : cmpV .le (.int i) (.int j) = .ok (decide (i ≤ j)) := rfl
@[simp] theorem cmp_gt {i j : Int} : cmpV .gt (.int i) (.int j) = .ok (decide (j < i)) := rfl
@[simp] theorem cmp_ge {i j : Int} : cmpV .ge (.int i) (.int j) = .ok (decide (j ≤ i)) := rfl
@[simp] theorem ofInt_ok {i : Int} {f : Int → R D} : ofInt (.ok (.int i)) f = f i := rfl
@[simp] theorem bfn_lenL {l : List D} : bfn .len [.lst l] = .ok (.int l.length) := rfl
@[simp] theorem bfn_lenT {l : List D} : bfn .len [.tup l] = .ok (.int l.length) := rfl
@[simp] theorem bfn_absI {i : Int} : bfn .abs [.int i] = .ok (.int (if i < 0 then -i else i)) := rfl
@[simp] theorem bfn_intI {i : Int} : bfn .int [.int i] = .ok (.int i) := rfl
@[simp] theorem bfn_intB {b : Bool} : bfn .int [.bl b] = .ok (.int (if b then 1 else 0)) := rfl
@[simp] theorem bfn_tupL {l : List D} : bfn .tuple [.lst l] = .ok (.tup l) := rfl
@[simp] theorem bfn_tupT {l : List D} : bfn .tuple [.tup l] = .ok (.tup l) := rfl
@[simp] theorem bfn_lstL {l : List D} : bfn .list [.lst l] = .ok (.lst l) := rfl
@[simp] theorem bfn_lstT {l : List D} : bfn .list [.tup l] = .ok (.lst l) := rfl
@[simp] theorem items_l {l : List D} : itemsV (.lst l) = .ok l := rfl
@[simp] theorem items_t {l : List D} : itemsV (.tup l) = .ok l := rfl
@[simp] theorem enm_t {l : List D} : enmV (.tup l) = .ok (enmL l) := rfl
@[simp] theorem enm_l {l : List D} : enmV (.lst l) = .ok (enmL l) := rfl
@[simp] theorem zip_l {l r : List D} : zipV (.lst l) (.lst r) = .ok (zipL l r) := rfl
@[simp] theorem zip_t {l r : List D} : zipV (.tup l) (.tup r) = .ok (zipL l r) := rfl
@[simp] theorem slc_l {l : List D} {a b : Option Int} : slcV (.lst l) a b = .ok (.lst (cutD l a b)) := rfl
@[simp] theorem slc_t {l : List D} {a b : Option Int} : slcV (.tup l) a b = .ok (.tup (cutD l a b)) := rfl
@[simp] theorem rng1 {j : Int} (h : rngOk j) : rngV [.int j] = .ok (rngL 0 j.toNat) := if_pos h
@[simp] theorem rng2 {i j : Int} (h : rngOk i) (h' : rngOk j) : rngV [.int i, .int j] = .ok (rngL i (j - i).toNat) := if_pos ⟨h, h'⟩
theorem forL_nil {st : D → Env → R Env} {b : Env → Out} {ρ : Env} : forL st b [] ρ = .nx ρ := rfl
theorem forL_cons {st : D → Env → R Env} {b : Env → Out} {x : D} {r : List D} {ρ : Env} : forL st b (x :: r) ρ = Out.ofR ρ (st x ρ) fun ρ1 => match b ρ1 with
    | .nx ρ2 => forL st b r ρ2
    | .ct ρ2 => forL st b r ρ2
    | .bk ρ2 => .nx ρ2
    | o => o := rfl
/-- a while loop, one turn -/
theorem whlN_more {c : Env → R Bool} {b : Env → Out} : ∀ {n : Nat} {ρ : Env} {o : Out}, whlN c b n ρ = some o → whlN c b (n + 1) ρ = some o
  | 0, ρ, o, h => by simp [whlN] at h
  | n + 1, ρ, o, h => by
    rw [whlN] at h ⊢
    cases q : c ρ with
    | exc k => rw [q] at h; exact h
    | stk => rw [q] at h; exact h
    | ok k =>
      rw [q] at h
      cases k with
      | false => exact h
      | true =>
        dsimp only at h ⊢
        cases e : b ρ with
        | nx ρ2 => rw [e] at h; exact whlN_more h
        | ct ρ2 => rw [e] at h; exact whlN_more h
        | bk ρ2 => rw [e] at h; exact h
        | ret d => rw [e] at h; exact h
        | exc k ρ2 => rw [e] at h; exact h
        | stk => rw [e] at h; exact h
theorem whlN_up {c : Env → R Bool} {b : Env → Out} {n : Nat} {ρ : Env} {o : Out} (h : whlN c b n ρ = some o) : ∀ {m : Nat}, n ≤ m → whlN c b m ρ = some o := fun {m} hm => by
  induction hm with
  | refl => exact h
  | step _ ih => exact whlN_more ih
theorem whlR_of {c : Env → R Bool} {b : Env → Out} {n : Nat} {ρ : Env} {o : Out} (h : whlN c b n ρ = some o) : whlR c b ρ = o := by
  have hx : ∃ n o, whlN c b n ρ = some o := ⟨n, o, h⟩
  unfold whlR
  rw [dif_pos hx]
  have q := Classical.choose_spec (Classical.choose_spec hx)
  have h1 := whlN_up h (Nat.le_max_left n (Classical.choose hx))
  have h2 := whlN_up q (Nat.le_max_right n (Classical.choose hx))
  exact Option.some.inj (h2.symm.trans h1)
/-- a while loop by a measure -/
theorem whl_ind {c : Env → R Bool} {b : Env → Out} {Q : Out → Prop} (I : Nat → Env → Prop)
    (step : ∀ m ρ, I m ρ → (c ρ = .ok false ∧ Q (.nx ρ)) ∨ (c ρ = .ok true ∧ ∃ ρ2 m', (b ρ = .nx ρ2 ∨ b ρ = .ct ρ2) ∧ m' < m ∧ I m' ρ2)) :
    ∀ {m : Nat} {ρ : Env}, I m ρ → Q (whlR c b ρ) := by
  have key : ∀ (k m : Nat) (ρ : Env), m < k → I m ρ → ∃ n o, whlN c b n ρ = some o ∧ Q o := by
    intro k
    induction k with
    | zero => intro m ρ h; omega
    | succ k ih =>
      intro m ρ hm hi
      rcases step m ρ hi with ⟨hc, q⟩ | ⟨hc, ρ2, m', hb, hm', hi'⟩
      · exact ⟨1, _, by simp [whlN, hc], q⟩
      · obtain ⟨n, o, h1, h2⟩ := ih m' ρ2 (by omega) hi'
        refine ⟨n + 1, o, ?_, h2⟩
        rcases hb with hb | hb <;> simp [whlN, hc, hb, h1]
  intro m ρ hi
  obtain ⟨n, o, h1, h2⟩ := key (m + 1) m ρ (Nat.lt_succ_self _) hi
  rw [whlR_of h1]
  exact h2
/-- a for loop that always goes on -/
theorem forL_ind {st : D → Env → R Env} {b : Env → Out} (I : List D → Env → Prop) (step : ∀ x r ρ, I (x :: r) ρ → ∃ ρ1 ρ2, st x ρ = .ok ρ1 ∧ (b ρ1 = .nx ρ2 ∨ b ρ1 = .ct ρ2) ∧ I r ρ2) :
    ∀ {l : List D} {ρ : Env}, I l ρ → ∃ ρ', forL st b l ρ = .nx ρ' ∧ I [] ρ'
  | [], ρ, h => ⟨ρ, rfl, h⟩
  | x :: r, ρ, h => by
    obtain ⟨ρ1, ρ2, h1, h2, h3⟩ := step x r ρ h
    obtain ⟨ρ', h4, h5⟩ := forL_ind I step h3
    refine ⟨ρ', ?_, h5⟩
    rw [forL_cons, h1]
    rcases h2 with h2 | h2 <;> simp [h2, h4]
end Rv
/-! A module's constants. -/
namespace Rv
open PySem PySem.Spec PyProof.Rows L2
def HasC (K : PySem.W.Frag) (mg : Str → Option Value) (x : Str) (d : D) : Prop := ∃ v u, mg x = some u ∧ RelV v u ∧ ∀ F H, Rep K F H v d
section
variable {K : PySem.W.Frag} {mg : Str → Option Value} {h : Heap} {x : Str} {goal : Prop}
theorem with_cint {i : Int} {t : Tok} (X : K.In h) (G : h.Ns mainGlobals mg) (a : PySem.W.nsIn K mainGlobals x = some (some (.int i t))) (r : HasC K mg x (.int i) → goal) : goal :=
  r ⟨.int i, _, PySem.W.mg_of X G a, ⟨t, rfl⟩, fun _ _ => .int i⟩
theorem with_cstr {s : Str} {t : Tok} (X : K.In h) (G : h.Ns mainGlobals mg) (a : PySem.W.nsIn K mainGlobals x = some (some (.str s t))) (r : HasC K mg x (.str s) → goal) : goal :=
  r ⟨.str s, _, PySem.W.mg_of X G a, ⟨t, rfl⟩, fun _ _ => .str s⟩
theorem with_pair {f : Addr} {od : Option Addr} {i j : Int} {t u : Tok} {n : Nat} {sl : Array (Option Value)} (X : K.In h) (G : h.Ns mainGlobals mg) (a : PySem.W.nsIn K mainGlobals x = some (some (.ref f)))
    (l : K.lookup f = some ⟨.type "tuple", od, .seq #[.int i t, .int j u] n, sl⟩) (r : HasC K mg x (.tup [.int i, .int j]) → goal) : goal :=
  r ⟨.ref f, _, PySem.W.mg_of X G a, rfl, fun _ _ => .tup (.inr ⟨_, _, _, l, rfl, rfl, by show 2 ≤ sizeLine; decide, .cons (show RelV (.int i) _ from ⟨t, rfl⟩) (.cons (show RelV (.int j) _ from ⟨u, rfl⟩) .nil)⟩) (fun z => by simp [fixB] at z) (.cons (.int i) (.cons (.int j) .nil))⟩
end
/-! loops by places -/
theorem forL_idx {st : D → Env → R Env} {b : Env → Out} (I : Nat → Env → Prop) : ∀ {l : List D} {k : Nat} {ρ : Env}, I k ρ →
    (∀ i x ρ, l[i]? = some x → I (k + i) ρ → ∃ ρ1 ρ2, st x ρ = .ok ρ1 ∧ (b ρ1 = .nx ρ2 ∨ b ρ1 = .ct ρ2) ∧ I (k + i + 1) ρ2) → ∃ ρ', forL st b l ρ = .nx ρ' ∧ I (k + l.length) ρ'
  | [], k, ρ, h, _ => ⟨ρ, rfl, h⟩
  | x :: r, k, ρ, h, step => by
    obtain ⟨ρ1, ρ2, h1, h2, h3⟩ := step 0 x ρ rfl h
    obtain ⟨ρ', h4, h5⟩ := forL_idx (l := r) (k := k + 1) I h3 (fun i y ρ e hi => by
      have := step (i + 1) y ρ (by simpa using e) (by rw [show k + (i + 1) = k + 1 + i by omega]; exact hi)
      rw [show k + 1 + i + 1 = k + (i + 1) + 1 by omega]
      exact this)
    refine ⟨ρ', ?_, by rw [List.length_cons, show k + (r.length + 1) = k + 1 + r.length by omega]; exact h5⟩
    rw [forL_cons, h1]
    rcases h2 with h2 | h2 <;> simp [h2, h4]
theorem forL_at {st : D → Env → R Env} {b : Env → Out} (I : Nat → Env → Prop) {l : List D} {ρ : Env} (h : I 0 ρ) (step : ∀ i x ρ, l[i]? = some x → I i ρ → ∃ ρ1 ρ2, st x ρ = .ok ρ1 ∧ (b ρ1 = .nx ρ2 ∨ b ρ1 = .ct ρ2) ∧ I (i + 1) ρ2) :
    ∃ ρ', forL st b l ρ = .nx ρ' ∧ I l.length ρ' := by
  obtain ⟨ρ', h1, h2⟩ := forL_idx (l := l) (k := 0) I h (fun i x ρ e hi => by
    rw [Nat.zero_add] at hi ⊢
    exact step i x ρ e hi)
  exact ⟨ρ', h1, by rw [Nat.zero_add] at h2; exact h2⟩
theorem forL_rng {st : D → Env → R Env} {b : Env → Out} {lo : Int} {n : Nat} (I : Nat → Env → Prop) {ρ : Env} (h : I 0 ρ) (step : ∀ i ρ, i < n → I i ρ → ∃ ρ1 ρ2, st (.int (lo + (i : Nat))) ρ = .ok ρ1 ∧ (b ρ1 = .nx ρ2 ∨ b ρ1 = .ct ρ2) ∧ I (i + 1) ρ2) :
    ∃ ρ', forL st b (rngL lo n) ρ = .nx ρ' ∧ I n ρ' := by
  obtain ⟨ρ', h1, h2⟩ := forL_at (l := rngL lo n) I h (fun i x ρ e hi => by
    obtain ⟨hn, rfl⟩ := rngL_get e
    exact step i ρ hn hi)
  exact ⟨ρ', h1, by rw [rngL_len] at h2; exact h2⟩
theorem compL_map {st : D → R Env} {c : Env → R Bool} {f : Env → R D} (g : D → Option D) : ∀ {l : List D}, (∀ x ∈ l, ∃ ρ, st x = .ok ρ ∧ ((c ρ = .ok false ∧ g x = none) ∨ (c ρ = .ok true ∧ ∃ y, f ρ = .ok y ∧ g x = some y))) → compL st c f l = .ok (l.filterMap g)
  | [], _ => rfl
  | x :: r, h => by
    obtain ⟨ρ, h1, h2⟩ := h x List.mem_cons_self
    have ih := compL_map g (l := r) fun y hy => h y (List.mem_cons_of_mem _ hy)
    rcases h2 with ⟨h2, h3⟩ | ⟨h2, y, h3, h4⟩
    · simp [compL, h1, h2, ih, List.filterMap_cons, h3]
    · simp [compL, h1, h2, h3, ih, List.filterMap_cons, h4]
/-! == of the same data -/
mutual
theorem eqv_self : ∀ {n : Nat} {d : D}, eqOk n d = true → PyData.eqv d.py d.py = true
  | _, .non, _ => rfl
  | _, .bl b, _ => by simp [D.py, PyData.eqv]
  | _, .int i, _ => by simp [D.py, PyData.eqv]
  | _, .str s, _ => by simp [D.py, PyData.eqv]
  | n + 1, .lst l, h => by
    simp only [eqOk] at h
    simp only [D.py, PyData.eqv]
    exact eqvs_self (n := n) h
  | n + 1, .tup l, h => by
    simp only [eqOk] at h
    simp only [D.py, PyData.eqv]
    exact eqvs_self (n := n) h
  | 0, .lst l, h => by simp [eqOk] at h
  | 0, .tup l, h => by simp [eqOk] at h
  | _, .dK _, h => by simp [eqOk] at h
  | _, .dT _, h => by simp [eqOk] at h
  | _, .exc _, h => by simp [eqOk] at h
theorem eqvs_self : ∀ {n : Nat} {l : List D}, l.all (eqOk n) = true → PyData.eqvAll (pys l) (pys l) = true
  | _, [], _ => by simp [pys, PyData.eqvAll]
  | n, d :: l, h => by
    simp only [List.all_cons, Bool.and_eq_true] at h
    simp only [pys, PyData.eqvAll, Bool.and_eq_true]
    exact ⟨eqv_self h.1, eqvs_self (n := n) h.2⟩
end
theorem eq_self' {d : D} (h : eqOk 12 d = true) : cmpV .eq d d = .ok true := by
  simp only [cmpV, h, Bool.and_self, if_true]
  rw [show dEq d d = true from eqv_self h]
theorem ne_self' {d : D} (h : eqOk 12 d = true) : cmpV .ne d d = .ok false := by
  simp only [cmpV, h, Bool.and_self, if_true]
  rw [show dEq d d = true from eqv_self h]; rfl
end Rv
namespace Hx
open PySem PySem.Spec PyProof.Rows L2 Rv
def top (i : Nat) : Stmt := PySem.Challenge.pw_halfturn_k42_upright_slopes_and_brackets.main.body.getD i (.Pass ⟨0, 0, 0, 0⟩)
abbrev n_divisor : Nat := 21
abbrev n_fraction : Nat := 22
abbrev n_added : Nat := 23
abbrev n_times : Nat := 24
abbrev n_ways : Nat := 25
abbrev n_gathered : Nat := 28
abbrev n_depth : Nat := 29
abbrev n_is_plain : Nat := 30
abbrev n_check_weight : Nat := 31
abbrev n_form_sum : Nat := 32
abbrev n_form_times : Nat := 33
abbrev n_form_product : Nat := 34
abbrev n_rated : Nat := 35
abbrev n_slope : Nat := 36
abbrev n_check_plain : Nat := 38
abbrev n_upright : Nat := 40
abbrev n_lowest : Nat := 41
abbrev n_slopes : Nat := 42
abbrev n_bracket : Nat := 43
abbrev n_l_cell_at : Nat := 45
abbrev n_l_draws : Nat := 46
abbrev n_l_gcd : Nat := 47
abbrev n_l_frac : Nat := 48
abbrev n_l_add : Nat := 49
abbrev n_l_mul : Nat := 50
abbrev n_l_a_number : Nat := 51
abbrev n_l_triples : Nat := 52
abbrev n_l_gathered : Nat := 53
abbrev n_l_a_form : Nat := 54
abbrev n_l_weight : Nat := 55
abbrev n_l_form_sum : Nat := 56
abbrev n_l_form_product : Nat := 57
abbrev n_l_slope : Nat := 58
abbrev n_l_ways : Nat := 59
abbrev n_l_kin : Nat := 60
abbrev n_l_told : Nat := 61
abbrev n_l_bracket : Nat := 62
abbrev n_law : Nat := 63
abbrev gl_NOUGHT : Nat := 19
abbrev gl_ONE : Nat := 20
abbrev gl_HEAVIEST : Nat := 27
abbrev ex_TurnError : Nat := 1
abbrev ex_NoShare : Nat := 3
abbrev ex_Unlike : Nat := 4
abbrev ex_TooHeavy : Nat := 5
abbrev ex_Short : Nat := 6
abbrev ex_NotPlain : Nat := 7
abbrev ex_NotWhole : Nat := 8
abbrev ex_Nought : Nat := 9
abbrev ex_NoName : Nat := 10
abbrev ex_NoForm : Nat := 11
abbrev ex_NoRecipe : Nat := 12
abbrev ex_NoCell : Nat := 13
abbrev ex_Ring : Nat := 14
abbrev ex_TooMany : Nat := 15
abbrev ex_InUse : Nat := 16
abbrev ex_NoText : Nat := 17
def lb_divisor_0 : Ss := (.cons (.par 0 1 (.var 1) (.bin .mod (.var 0) (.var 1)))
  .nil)
def lp_divisor_0 : S := .whl (.cmp .gt (.var 1) (.int 0)) lb_divisor_0
def fd_divisor : Fd := ⟨2, 2, (.cons (.par 0 1 (.bfn .abs (.cons (.var 0) .nil)) (.bfn .abs (.cons (.var 1) .nil)))
  (.cons lp_divisor_0
  (.cons (.ret (.var 0))
  .nil)))⟩
def d_divisor : DefI := ⟨"divisor", 21, fd_divisor, ["one", "other"], ["one", "other"], top 21, none, none⟩
def fd_fraction : Fd := ⟨3, 2, (.cons (.ife (.cmp .eq (.var 1) (.int 0)) (.cons (.rse ex_NoShare)
  .nil) .nil)
  (.cons (.asg 2 (.call n_divisor (.cons (.var 0) (.cons (.var 1) .nil))) false)
  (.cons (.ife (.cmp .lt (.var 1) (.int 0)) (.cons (.asg 2 (.neg (.var 2)) false)
  .nil) .nil)
  (.cons (.ret (.tup (.cons (.bin .fdv (.var 0) (.var 2)) (.cons (.bin .fdv (.var 1) (.var 2)) .nil))))
  .nil))))⟩
def d_fraction : DefI := ⟨"fraction", 22, fd_fraction, ["top", "bottom", "by"], ["top", "bottom"], top 22, none, none⟩
def fd_added : Fd := ⟨2, 2, (.cons (.ret (.call n_fraction (.cons (.bin .add (.bin .mul (.idx (.var 0) (.int 0)) (.idx (.var 1) (.int 1))) (.bin .mul (.idx (.var 1) (.int 0)) (.idx (.var 0) (.int 1)))) (.cons (.bin .mul (.idx (.var 0) (.int 1)) (.idx (.var 1) (.int 1))) .nil))))
  .nil)⟩
def d_added : DefI := ⟨"added", 23, fd_added, ["one", "other"], ["one", "other"], top 23, none, none⟩
def fd_times : Fd := ⟨2, 2, (.cons (.ret (.call n_fraction (.cons (.bin .mul (.idx (.var 0) (.int 0)) (.idx (.var 1) (.int 0))) (.cons (.bin .mul (.idx (.var 0) (.int 1)) (.idx (.var 1) (.int 1))) .nil))))
  .nil)⟩
def d_times : DefI := ⟨"times", 24, fd_times, ["one", "other"], ["one", "other"], top 24, none, none⟩
def lb_ways_0 : Ss := (.cons (.asg 2 (.bin .fdv (.bin .mul (.var 2) (.bin .sub (.var 0) (.var 3))) (.bin .add (.var 3) (.int 1))) false)
  .nil)
def lp_ways_0 : S := .for_ (.var 3) (.rng (.cons (.var 1) .nil)) lb_ways_0
def fd_ways : Fd := ⟨4, 2, (.cons (.asg 2 (.int 1) false)
  (.cons lp_ways_0
  (.cons (.ret (.var 2))
  .nil)))⟩
def d_ways : DefI := ⟨"ways", 25, fd_ways, ["many", "some", "found", "at"], ["many", "some"], top 25, none, none⟩
def lb_gathered_0 : Ss := (.cons (.dst 2 (.tup (.cons (.var 3) (.cons (.var 4) (.cons (.var 5) .nil)))) (.call n_added (.cons (.dgt 2 (.tup (.cons (.var 3) (.cons (.var 4) (.cons (.var 5) .nil)))) (.glb gl_NOUGHT)) (.cons (.var 6) .nil))))
  .nil)
def lp_gathered_0 : S := .for_ (.tup (.cons (.var 3) (.cons (.var 4) (.cons (.var 5) (.cons (.var 6) .nil))))) (.it (.var 1)) lb_gathered_0
def cp_gathered_0 : Ex := .comp (.bin .add (.var 7) (.tup (.cons (.dix 2 (.var 7)) .nil))) (.var 7) (.it (.dso 2)) (.yes (.cmp .ne (.dix 2 (.var 7)) (.glb gl_NOUGHT))) [7]
def fd_gathered : Fd := ⟨8, 2, (.cons (.dnw 2 true)
  (.cons lp_gathered_0
  (.cons (.ret (.tup (.cons (.var 0) (.cons (.bfn .tuple (.cons cp_gathered_0 .nil)) .nil))))
  .nil)))⟩
def d_gathered : DefI := ⟨"gathered", 28, fd_gathered, ["weight", "rows", "table", "p", "q", "r", "number", "key"], ["weight", "rows"], top 28, none, none⟩
def cp_depth_0 : Ex := .comp (.idx (.var 1) (.int 0)) (.var 1) (.it (.idx (.var 0) (.int 1))) .no [1]
def fd_depth : Fd := ⟨2, 1, (.cons (.ret (.maxd cp_depth_0 (.int 0)))
  .nil)⟩
def d_depth : DefI := ⟨"depth", 29, fd_depth, ["form", "term"], ["form"], top 29, none, none⟩
def fd_is_plain : Fd := ⟨1, 1, (.cons (.ret (.cmp .eq (.call n_depth (.cons (.var 0) .nil)) (.int 0)))
  .nil)⟩
def d_is_plain : DefI := ⟨"is_plain", 30, fd_is_plain, ["form"], ["form"], top 30, none, none⟩
def fd_check_weight : Fd := ⟨1, 1, (.cons (.ife (.cmp .gt (.var 0) (.glb gl_HEAVIEST)) (.cons (.rse ex_TooHeavy)
  .nil) .nil)
  .nil)⟩
def d_check_weight : DefI := ⟨"check_weight", 31, fd_check_weight, ["weight"], ["weight"], top 31, none, none⟩
def fd_form_sum : Fd := ⟨2, 2, (.cons (.ife (.cmp .ne (.idx (.var 0) (.int 0)) (.idx (.var 1) (.int 0))) (.cons (.rse ex_Unlike)
  .nil) .nil)
  (.cons (.ret (.call n_gathered (.cons (.idx (.var 0) (.int 0)) (.cons (.bin .add (.idx (.var 0) (.int 1)) (.idx (.var 1) (.int 1))) .nil))))
  .nil))⟩
def d_form_sum : DefI := ⟨"form_sum", 32, fd_form_sum, ["one", "other"], ["one", "other"], top 32, none, none⟩
def cp_form_times_0 : Ex := .comp (.tup (.cons (.var 2) (.cons (.var 3) (.cons (.var 4) (.cons (.call n_times (.cons (.var 5) (.cons (.var 1) .nil))) .nil))))) (.tup (.cons (.var 2) (.cons (.var 3) (.cons (.var 4) (.cons (.var 5) .nil))))) (.it (.idx (.var 0) (.int 1))) .no [2, 3, 4, 5]
def fd_form_times : Fd := ⟨6, 2, (.cons (.ret (.call n_gathered (.cons (.idx (.var 0) (.int 0)) (.cons cp_form_times_0 .nil))))
  .nil)⟩
def d_form_times : DefI := ⟨"form_times", 33, fd_form_times, ["form", "number", "p", "q", "r", "old"], ["form", "number"], top 33, none, none⟩
def cp_form_product_0 : Ex := .comp (.tup (.cons (.bin .add (.var 3) (.var 7)) (.cons (.bin .add (.var 4) (.var 8)) (.cons (.bin .add (.var 5) (.var 9)) (.cons (.call n_times (.cons (.var 6) (.cons (.var 10) .nil))) .nil))))) (.tup (.cons (.var 7) (.cons (.var 8) (.cons (.var 9) (.cons (.var 10) .nil))))) (.it (.idx (.var 1) (.int 1))) .no [7, 8, 9, 10]
def lb_form_product_0 : Ss := (.cons (.asg 2 (.bin .add (.var 2) cp_form_product_0) false)
  .nil)
def lp_form_product_0 : S := .for_ (.tup (.cons (.var 3) (.cons (.var 4) (.cons (.var 5) (.cons (.var 6) .nil))))) (.it (.idx (.var 0) (.int 1))) lb_form_product_0
def fd_form_product : Fd := ⟨11, 2, (.cons (.exp (.call n_check_weight (.cons (.bin .add (.idx (.var 0) (.int 0)) (.idx (.var 1) (.int 0))) .nil)))
  (.cons (.asg 2 (.lst .nil) false)
  (.cons lp_form_product_0
  (.cons (.ret (.call n_gathered (.cons (.bin .add (.idx (.var 0) (.int 0)) (.idx (.var 1) (.int 0))) (.cons (.var 2) .nil))))
  .nil))))⟩
def d_form_product : DefI := ⟨"form_product", 34, fd_form_product, ["one", "other", "rows", "p", "q", "r", "number", "a", "b", "c", "more"], ["one", "other"], top 34, none, none⟩
def fd_rated : Fd := ⟨3, 3, (.cons (.ret (.call n_fraction (.cons (.bin .mul (.idx (.var 0) (.int 0)) (.var 1)) (.cons (.bin .mul (.idx (.var 0) (.int 1)) (.var 2)) .nil))))
  .nil)⟩
def d_rated : DefI := ⟨"rated", 35, fd_rated, ["number", "top", "bottom"], ["number", "top", "bottom"], top 35, none, none⟩
def lb_slope_0 : Ss := (.cons (.app 1 (.tup (.cons (.bin .add (.var 2) (.int 1)) (.cons (.var 3) (.cons (.var 4) (.cons (.call n_rated (.cons (.var 5) (.cons (.bin .add (.bin .add (.var 2) (.bin .mul (.int 4) (.var 3))) (.bin .mul (.int 6) (.var 4))) (.cons (.int 12) .nil)))) .nil))))))
  (.cons (.app 1 (.tup (.cons (.bin .sub (.var 2) (.int 1)) (.cons (.bin .add (.var 3) (.int 1)) (.cons (.var 4) (.cons (.call n_rated (.cons (.var 5) (.cons (.neg (.var 2)) (.cons (.int 12) .nil)))) .nil))))))
  (.cons (.app 1 (.tup (.cons (.var 2) (.cons (.bin .sub (.var 3) (.int 1)) (.cons (.bin .add (.var 4) (.int 1)) (.cons (.call n_rated (.cons (.var 5) (.cons (.neg (.var 3)) (.cons (.int 3) .nil)))) .nil))))))
  (.cons (.app 1 (.tup (.cons (.var 2) (.cons (.bin .add (.var 3) (.int 2)) (.cons (.bin .sub (.var 4) (.int 1)) (.cons (.call n_rated (.cons (.var 5) (.cons (.neg (.var 4)) (.cons (.int 2) .nil)))) .nil))))))
  .nil))))
def lp_slope_0 : S := .for_ (.tup (.cons (.var 2) (.cons (.var 3) (.cons (.var 4) (.cons (.var 5) .nil))))) (.it (.idx (.var 0) (.int 1))) lb_slope_0
def cp_slope_0 : Ex := .comp (.var 6) (.var 6) (.it (.var 1)) (.yes (.cmp .ne (.idx (.var 6) (.int 3)) (.glb gl_NOUGHT))) [6]
def fd_slope : Fd := ⟨7, 1, (.cons (.exp (.call n_check_weight (.cons (.bin .add (.idx (.var 0) (.int 0)) (.int 2)) .nil)))
  (.cons (.asg 1 (.lst .nil) true)
  (.cons lp_slope_0
  (.cons (.ret (.call n_gathered (.cons (.bin .add (.idx (.var 0) (.int 0)) (.int 2)) (.cons cp_slope_0 .nil))))
  .nil))))⟩
def d_slope : DefI := ⟨"slope", 36, fd_slope, ["form", "rows", "p", "q", "r", "number", "row"], ["form"], top 36, none, none⟩
def fd_check_plain : Fd := ⟨1, 1, (.cons (.ife (.not (.call n_is_plain (.cons (.var 0) .nil))) (.cons (.rse ex_NotPlain)
  .nil) .nil)
  .nil)⟩
def d_check_plain : DefI := ⟨"check_plain", 38, fd_check_plain, ["form"], ["form"], top 38, none, none⟩
def fd_upright : Fd := ⟨3, 1, (.cons (.exp (.call n_check_plain (.cons (.var 0) .nil)))
  (.cons (.asg 1 (.call n_slope (.cons (.var 0) .nil)) false)
  (.cons (.asg 2 (.tup (.cons (.int 2) (.cons (.tup (.cons (.tup (.cons (.int 1) (.cons (.int 0) (.cons (.int 0) (.cons (.glb gl_ONE) .nil))))) .nil)) .nil))) false)
  (.cons (.ret (.call n_form_sum (.cons (.var 1) (.cons (.call n_form_times (.cons (.call n_form_product (.cons (.var 2) (.cons (.var 0) .nil))) (.cons (.call n_lowest (.cons (.neg (.idx (.var 0) (.int 0))) (.cons (.int 12) .nil))) .nil))) .nil))))
  .nil))))⟩
def d_upright : DefI := ⟨"upright", 40, fd_upright, ["form", "made", "lead"], ["form"], top 40, none, none⟩
def fd_lowest : Fd := ⟨2, 2, (.cons (.ret (.call n_times (.cons (.tup (.cons (.var 0) (.cons (.int 1) .nil))) (.cons (.tup (.cons (.int 1) (.cons (.var 1) .nil))) .nil))))
  .nil)⟩
def d_lowest : DefI := ⟨"lowest", 41, fd_lowest, ["top", "bottom"], ["top", "bottom"], top 41, none, none⟩
def lb_slopes_0 : Ss := (.cons (.app 2 (.call n_slope (.cons (.idx (.var 2) (.neg (.int 1))) .nil)))
  .nil)
def lp_slopes_0 : S := .for_ (.var 3) (.rng (.cons (.var 1) .nil)) lb_slopes_0
def fd_slopes : Fd := ⟨4, 2, (.cons (.asg 2 (.lst (.cons (.var 0) .nil)) true)
  (.cons lp_slopes_0
  (.frz 2 (.cons (.ret (.var 2))
  .nil))))⟩
def d_slopes : DefI := ⟨"slopes", 42, fd_slopes, ["form", "many", "found", "turn"], ["form", "many"], top 42, none, none⟩
def lb_bracket_0 : Ss := (.cons (.asg 8 (.bin .mul (.call n_ways (.cons (.bin .sub (.bin .add (.idx (.var 0) (.int 0)) (.var 2)) (.int 1)) (.cons (.bin .sub (.var 2) (.var 5)) .nil))) (.call n_ways (.cons (.bin .sub (.bin .add (.idx (.var 1) (.int 0)) (.var 2)) (.int 1)) (.cons (.var 5) .nil)))) false)
  (.cons (.ife (.cmp .eq (.bin .mod (.var 5) (.int 2)) (.int 1)) (.cons (.asg 8 (.neg (.var 8)) false)
  .nil) .nil)
  (.cons (.ife (.cmp .ne (.var 8) (.int 0)) (.cons (.asg 4 (.call n_form_sum (.cons (.var 4) (.cons (.call n_form_times (.cons (.call n_form_product (.cons (.idx (.var 6) (.var 5)) (.cons (.idx (.var 7) (.bin .sub (.var 2) (.var 5))) .nil))) (.cons (.tup (.cons (.var 8) (.cons (.int 1) .nil))) .nil))) .nil))) false)
  .nil) .nil)
  .nil)))
def lp_bracket_0 : S := .for_ (.var 5) (.rng (.cons (.bin .add (.var 2) (.int 1)) .nil)) lb_bracket_0
def fd_bracket : Fd := ⟨9, 3, (.cons (.exp (.call n_check_plain (.cons (.var 0) .nil)))
  (.cons (.exp (.call n_check_plain (.cons (.var 1) .nil)))
  (.cons (.asg 3 (.bin .add (.bin .add (.idx (.var 0) (.int 0)) (.idx (.var 1) (.int 0))) (.bin .mul (.int 2) (.var 2))) false)
  (.cons (.exp (.call n_check_weight (.cons (.var 3) .nil)))
  (.cons (.par 6 7 (.call n_slopes (.cons (.var 0) (.cons (.var 2) .nil))) (.call n_slopes (.cons (.var 1) (.cons (.var 2) .nil))))
  (.cons (.asg 4 (.tup (.cons (.var 3) (.cons (.tup .nil) .nil))) false)
  (.cons lp_bracket_0
  (.cons (.ret (.var 4))
  .nil))))))))⟩
def d_bracket : DefI := ⟨"bracket", 43, fd_bracket, ["one", "other", "n", "weight", "found", "r", "left", "right", "lead"], ["one", "other", "n"], top 43, some 1, some "n"⟩
def fd_l_cell_at : Fd := ⟨2, 2, (.cons (.ife (.cmp .lt (.var 1) (.bfn .len (.cons (.var 0) .nil))) (.cons (.ret (.idx (.var 0) (.var 1)))
  .nil) .nil)
  (.cons (.ret (.int 0))
  .nil))⟩
def d_l_cell_at : DefI := ⟨"_law_cell_at", 45, fd_l_cell_at, ["script", "k"], ["script", "k"], top 45, none, none⟩
def lb_l_draws_0 : Ss := (.cons (.asg 5 (.bin .mod (.bin .add (.bin .add (.bin .add (.bin .mul (.var 5) (.var 5)) (.bin .mul (.int 48271) (.var 5))) (.var 6)) (.int 1)) (.int 2305843009213693951)) false)
  (.cons (.ife (.and (.cmp .gt (.var 6) (.int 2)) (.cmp .gt (.var 4) (.int 0))) (.cons (.app 3 (.bin .mod (.var 4) (.var 2)))
  (.cons (.asg 4 (.bin .fdv (.var 4) (.var 2)) false)
  .nil)) (.cons (.ife (.cmp .gt (.var 6) (.int 2)) (.cons (.app 3 (.bin .mod (.bin .fdv (.var 5) (.int 4096)) (.var 2)))
  .nil) .nil)
  .nil))
  .nil))
def lp_l_draws_0 : S := .for_ (.var 6) (.rng (.cons (.bin .add (.var 1) (.int 3)) .nil)) lb_l_draws_0
def fd_l_draws : Fd := ⟨7, 3, (.cons (.asg 3 (.lst .nil) true)
  (.cons (.asg 4 (.bin .mul (.var 0) (.bfn .int (.cons (.cmp .ge (.var 0) (.bin .pow (.int 10) (.int 18))) .nil))) false)
  (.cons (.asg 5 (.bin .mod (.var 0) (.int 2305843009213693951)) false)
  (.cons lp_l_draws_0
  (.frz 3 (.cons (.ret (.var 3))
  .nil))))))⟩
def d_l_draws : DefI := ⟨"_law_draws", 46, fd_l_draws, ["cell", "many", "size", "found", "rest", "stirred", "k"], ["cell", "many", "size"], top 46, none, none⟩
def lb_l_gcd_0 : Ss := (.cons (.asg 2 (.bin .mod (.var 0) (.var 1)) false)
  (.cons (.asg 0 (.var 1) false)
  (.cons (.asg 1 (.var 2) false)
  .nil)))
def lp_l_gcd_0 : S := .whl (.cmp .gt (.var 1) (.int 0)) lb_l_gcd_0
def fd_l_gcd : Fd := ⟨3, 2, (.cons (.par 0 1 (.bfn .abs (.cons (.var 0) .nil)) (.bfn .abs (.cons (.var 1) .nil)))
  (.cons lp_l_gcd_0
  (.cons (.ret (.var 0))
  .nil)))⟩
def d_l_gcd : DefI := ⟨"_law_gcd", 47, fd_l_gcd, ["one", "other", "rest"], ["one", "other"], top 47, none, none⟩
def fd_l_frac : Fd := ⟨3, 2, (.cons (.asg 2 (.call n_l_gcd (.cons (.var 0) (.cons (.var 1) .nil))) false)
  (.cons (.ret (.ite (.cmp .gt (.var 1) (.int 0)) (.tup (.cons (.bin .fdv (.var 0) (.var 2)) (.cons (.bin .fdv (.var 1) (.var 2)) .nil))) (.tup (.cons (.bin .fdv (.neg (.var 0)) (.var 2)) (.cons (.bin .fdv (.neg (.var 1)) (.var 2)) .nil)))))
  .nil))⟩
def d_l_frac : DefI := ⟨"_law_frac", 48, fd_l_frac, ["top", "bottom", "by"], ["top", "bottom"], top 48, none, none⟩
def fd_l_add : Fd := ⟨2, 2, (.cons (.ret (.call n_l_frac (.cons (.bin .add (.bin .mul (.idx (.var 0) (.int 0)) (.idx (.var 1) (.int 1))) (.bin .mul (.idx (.var 1) (.int 0)) (.idx (.var 0) (.int 1)))) (.cons (.bin .mul (.idx (.var 0) (.int 1)) (.idx (.var 1) (.int 1))) .nil))))
  .nil)⟩
def d_l_add : DefI := ⟨"_law_add", 49, fd_l_add, ["one", "other"], ["one", "other"], top 49, none, none⟩
def fd_l_mul : Fd := ⟨2, 2, (.cons (.ret (.call n_l_frac (.cons (.bin .mul (.idx (.var 0) (.int 0)) (.idx (.var 1) (.int 0))) (.cons (.bin .mul (.idx (.var 0) (.int 1)) (.idx (.var 1) (.int 1))) .nil))))
  .nil)⟩
def d_l_mul : DefI := ⟨"_law_mul", 50, fd_l_mul, ["one", "other"], ["one", "other"], top 50, none, none⟩
def fd_l_a_number : Fd := ⟨4, 1, (.cons (.asg 1 (.bin .mod (.idx (.var 0) (.int 0)) (.int 8)) false)
  (.cons (.asg 2 (.bin .sub (.bin .mod (.idx (.var 0) (.int 1)) (.int 19)) (.int 9)) false)
  (.cons (.ife (.cmp .lt (.var 1) (.int 3)) (.cons (.ret (.tup (.cons (.var 2) (.cons (.int 1) .nil))))
  .nil) .nil)
  (.cons (.ife (.cmp .lt (.var 1) (.int 5)) (.cons (.ret (.call n_l_frac (.cons (.var 2) (.cons (.bin .add (.int 1) (.bin .mod (.idx (.var 0) (.int 2)) (.int 12))) .nil))))
  .nil) .nil)
  (.cons (.ife (.cmp .eq (.var 1) (.int 5)) (.cons (.ret (.tup (.cons (.int 0) (.cons (.int 1) .nil))))
  .nil) .nil)
  (.cons (.asg 3 (.bin .add (.bin .mul (.bin .add (.bin .mul (.bin .add (.bin .mul (.idx (.var 0) (.int 1)) (.int 1000)) (.idx (.var 0) (.int 2))) (.int 1000)) (.idx (.var 0) (.int 3))) (.int 1000)) (.idx (.var 0) (.int 4))) false)
  (.cons (.ret (.call n_l_frac (.cons (.bin .sub (.var 3) (.bin .mul (.int 4) (.bin .pow (.int 10) (.int 11)))) (.cons (.idx (.lst (.cons (.int 1) (.cons (.bin .add (.bin .add (.int 1) (.bin .mul (.idx (.var 0) (.int 5)) (.int 1000))) (.idx (.var 0) (.int 2))) .nil))) (.bin .mod (.bin .fdv (.idx (.var 0) (.int 0)) (.int 8)) (.int 2))) .nil))))
  .nil)))))))⟩
def d_l_a_number : DefI := ⟨"_law_a_number", 51, fd_l_a_number, ["picks", "way", "top", "great"], ["picks"], top 51, none, none⟩
def lb_l_triples_0 : Ss := (.cons (.ife (.cmp .eq (.bin .mod (.bin .sub (.bin .sub (.var 0) (.bin .mul (.int 2) (.var 3))) (.bin .mul (.int 4) (.var 4))) (.int 6)) (.int 0)) (.cons (.app 2 (.tup (.cons (.var 3) (.cons (.var 4) (.cons (.bin .fdv (.bin .sub (.bin .sub (.var 0) (.bin .mul (.int 2) (.var 3))) (.bin .mul (.int 4) (.var 4))) (.int 6)) .nil)))))
  .nil) .nil)
  .nil)
def lp_l_triples_0 : S := .for_ (.var 4) (.rng (.cons (.bin .add (.bin .fdv (.bin .sub (.var 0) (.bin .mul (.int 2) (.var 3))) (.int 4)) (.int 1)) .nil)) lb_l_triples_0
def lb_l_triples_1 : Ss := (.cons lp_l_triples_0
  .nil)
def lp_l_triples_1 : S := .for_ (.var 3) (.rng (.cons (.bin .add (.bfn .min2 (.cons (.var 1) (.cons (.bin .fdv (.var 0) (.int 2)) .nil))) (.int 1)) .nil)) lb_l_triples_1
def fd_l_triples : Fd := ⟨5, 2, (.cons (.asg 2 (.lst .nil) true)
  (.cons lp_l_triples_1
  (.frz 2 (.cons (.ret (.var 2))
  .nil))))⟩
def d_l_triples : DefI := ⟨"_law_triples", 52, fd_l_triples, ["weight", "most", "found", "p", "q"], ["weight", "most"], top 52, none, none⟩
def cp_l_gathered_0 : Ex := .comp (.bin .add (.var 2) (.tup (.cons (.dix 1 (.var 2)) .nil))) (.var 2) (.it (.dso 1)) (.yes (.cmp .ne (.dix 1 (.var 2)) (.tup (.cons (.int 0) (.cons (.int 1) .nil))))) [2]
def fd_l_gathered : Fd := ⟨3, 2, (.cons (.ret (.tup (.cons (.var 0) (.cons (.bfn .tuple (.cons cp_l_gathered_0 .nil)) .nil))))
  .nil)⟩
def d_l_gathered : DefI := ⟨"_law_gathered", 53, fd_l_gathered, ["weight", "table", "key"], ["weight", "table"], top 53, none, none⟩
def lb_l_a_form_0 : Ss := (.cons (.asg 6 (.slc (.var 0) (.yes (.bin .add (.int 1) (.bin .mul (.int 7) (.var 5)))) (.yes (.bin .add (.int 8) (.bin .mul (.int 7) (.var 5))))) false)
  (.cons (.ife (.cmp .ne (.var 4) (.lst .nil)) (.cons (.dst 3 (.idx (.var 4) (.bin .mod (.idx (.var 6) (.int 0)) (.bfn .len (.cons (.var 4) .nil)))) (.call n_l_a_number (.cons (.slc (.var 6) (.yes (.int 1)) .no) .nil)))
  .nil) .nil)
  .nil))
def lp_l_a_form_0 : S := .for_ (.var 5) (.rng (.cons (.bin .add (.int 1) (.bin .mod (.idx (.var 0) (.int 0)) (.int 6))) .nil)) lb_l_a_form_0
def fd_l_a_form : Fd := ⟨7, 3, (.cons (.dnw 3 true)
  (.cons (.asg 4 (.call n_l_triples (.cons (.var 1) (.cons (.var 2) .nil))) false)
  (.cons lp_l_a_form_0
  (.frz 3 (.cons (.ret (.call n_l_gathered (.cons (.var 1) (.cons (.var 3) .nil))))
  .nil)))))⟩
def d_l_a_form : DefI := ⟨"_law_a_form", 54, fd_l_a_form, ["picks", "weight", "most", "table", "there", "k", "some"], ["picks", "weight", "most"], top 54, none, none⟩
def fd_l_weight : Fd := ⟨1, 1, (.cons (.ret (.bin .mul (.int 2) (.idx (.lst (.cons (.bin .mod (.var 0) (.int 7)) (.cons (.bin .mod (.var 0) (.int 13)) (.cons (.bin .mod (.var 0) (.int 31)) .nil)))) (.bin .mod (.bin .fdv (.var 0) (.int 31)) (.int 3)))))
  .nil)⟩
def d_l_weight : DefI := ⟨"_law_weight", 55, fd_l_weight, ["pick"], ["pick"], top 55, none, none⟩
def lb_l_form_sum_0 : Ss := (.cons (.dst 3 (.slc (.var 4) .no (.yes (.int 3))) (.idx (.var 4) (.int 3)))
  .nil)
def lp_l_form_sum_0 : S := .for_ (.var 4) (.it (.idx (.var 0) (.int 1))) lb_l_form_sum_0
def lb_l_form_sum_1 : Ss := (.cons (.dst 3 (.slc (.var 4) .no (.yes (.int 3))) (.call n_l_add (.cons (.dgt 3 (.slc (.var 4) .no (.yes (.int 3))) (.tup (.cons (.int 0) (.cons (.int 1) .nil)))) (.cons (.call n_l_mul (.cons (.idx (.var 4) (.int 3)) (.cons (.var 2) .nil))) .nil))))
  .nil)
def lp_l_form_sum_1 : S := .for_ (.var 4) (.it (.idx (.var 1) (.int 1))) lb_l_form_sum_1
def fd_l_form_sum : Fd := ⟨5, 3, (.cons (.dnw 3 true)
  (.cons lp_l_form_sum_0
  (.cons lp_l_form_sum_1
  (.frz 3 (.cons (.ret (.call n_l_gathered (.cons (.idx (.var 0) (.int 0)) (.cons (.var 3) .nil))))
  .nil)))))⟩
def d_l_form_sum : DefI := ⟨"_law_form_sum", 56, fd_l_form_sum, ["one", "other", "number", "table", "term"], ["one", "other", "number"], top 56, none, none⟩
def lb_l_form_product_0 : Ss := (.cons (.asg 11 (.tup (.cons (.bin .add (.var 3) (.var 7)) (.cons (.bin .add (.var 4) (.var 8)) (.cons (.bin .add (.var 5) (.var 9)) .nil)))) false)
  (.cons (.dst 2 (.var 11) (.call n_l_add (.cons (.dgt 2 (.var 11) (.tup (.cons (.int 0) (.cons (.int 1) .nil)))) (.cons (.call n_l_mul (.cons (.var 6) (.cons (.var 10) .nil))) .nil))))
  .nil))
def lp_l_form_product_0 : S := .for_ (.tup (.cons (.var 7) (.cons (.var 8) (.cons (.var 9) (.cons (.var 10) .nil))))) (.it (.idx (.var 1) (.int 1))) lb_l_form_product_0
def lb_l_form_product_1 : Ss := (.cons lp_l_form_product_0
  .nil)
def lp_l_form_product_1 : S := .for_ (.tup (.cons (.var 3) (.cons (.var 4) (.cons (.var 5) (.cons (.var 6) .nil))))) (.it (.idx (.var 0) (.int 1))) lb_l_form_product_1
def fd_l_form_product : Fd := ⟨12, 2, (.cons (.dnw 2 true)
  (.cons lp_l_form_product_1
  (.frz 2 (.cons (.ret (.call n_l_gathered (.cons (.bin .add (.idx (.var 0) (.int 0)) (.idx (.var 1) (.int 0))) (.cons (.var 2) .nil))))
  .nil))))⟩
def d_l_form_product : DefI := ⟨"_law_form_product", 57, fd_l_form_product, ["one", "other", "table", "p", "q", "r", "number", "a", "b", "c", "more", "key"], ["one", "other"], top 57, none, none⟩
def lb_l_slope_0 : Ss := (.cons (.dst 1 (.var 7) (.call n_l_add (.cons (.dgt 1 (.var 7) (.tup (.cons (.int 0) (.cons (.int 1) .nil)))) (.cons (.call n_l_mul (.cons (.var 5) (.cons (.call n_l_frac (.cons (.var 8) (.cons (.var 9) .nil))) .nil))) .nil))))
  .nil)
def lp_l_slope_0 : S := .for_ (.tup (.cons (.var 7) (.cons (.var 8) (.cons (.var 9) .nil)))) (.it (.bin .add (.var 6) (.lst (.cons (.tup (.cons (.tup (.cons (.bin .add (.var 2) (.int 1)) (.cons (.var 3) (.cons (.var 4) .nil)))) (.cons (.var 4) (.cons (.int 2) .nil)))) (.cons (.tup (.cons (.tup (.cons (.var 2) (.cons (.bin .add (.var 3) (.int 2)) (.cons (.bin .sub (.var 4) (.int 1)) .nil)))) (.cons (.neg (.var 4)) (.cons (.int 2) .nil)))) .nil))))) lb_l_slope_0
def lb_l_slope_1 : Ss := (.cons (.asg 6 (.lst (.cons (.tup (.cons (.tup (.cons (.bin .add (.var 2) (.int 1)) (.cons (.var 3) (.cons (.var 4) .nil)))) (.cons (.var 2) (.cons (.int 12) .nil)))) (.cons (.tup (.cons (.tup (.cons (.bin .sub (.var 2) (.int 1)) (.cons (.bin .add (.var 3) (.int 1)) (.cons (.var 4) .nil)))) (.cons (.neg (.var 2)) (.cons (.int 12) .nil)))) (.cons (.tup (.cons (.tup (.cons (.bin .add (.var 2) (.int 1)) (.cons (.var 3) (.cons (.var 4) .nil)))) (.cons (.var 3) (.cons (.int 3) .nil)))) (.cons (.tup (.cons (.tup (.cons (.var 2) (.cons (.bin .sub (.var 3) (.int 1)) (.cons (.bin .add (.var 4) (.int 1)) .nil)))) (.cons (.neg (.var 3)) (.cons (.int 3) .nil)))) .nil))))) false)
  (.cons lp_l_slope_0
  .nil))
def lp_l_slope_1 : S := .for_ (.tup (.cons (.var 2) (.cons (.var 3) (.cons (.var 4) (.cons (.var 5) .nil))))) (.it (.idx (.var 0) (.int 1))) lb_l_slope_1
def fd_l_slope : Fd := ⟨10, 1, (.cons (.dnw 1 true)
  (.cons lp_l_slope_1
  (.frz 1 (.cons (.ret (.call n_l_gathered (.cons (.bin .add (.idx (.var 0) (.int 0)) (.int 2)) (.cons (.var 1) .nil))))
  .nil))))⟩
def d_l_slope : DefI := ⟨"_law_slope", 58, fd_l_slope, ["form", "table", "p", "q", "r", "number", "rows", "key", "top", "bottom"], ["form"], top 58, none, none⟩
def lb_l_ways_0 : Ss := (.cons (.asg 2 (.bin .fdv (.bin .mul (.var 2) (.bin .sub (.var 0) (.var 3))) (.bin .add (.var 3) (.int 1))) false)
  .nil)
def lp_l_ways_0 : S := .for_ (.var 3) (.rng (.cons (.var 1) .nil)) lb_l_ways_0
def fd_l_ways : Fd := ⟨4, 2, (.cons (.asg 2 (.int 1) false)
  (.cons lp_l_ways_0
  (.cons (.ret (.var 2))
  .nil)))⟩
def d_l_ways : DefI := ⟨"_law_ways", 59, fd_l_ways, ["many", "some", "found", "at"], ["many", "some"], top 59, none, none⟩
def fd_l_told : Fd := ⟨6, 3, (.cons (.asg 3 .non false)
  (.cons (.asg 4 (.lst .nil) false)
  (.cons (.tryK (.cons (.ife (.cmp .isn (.var 1) .non) (.cons (.asg 3 (.call n_upright (.cons (.var 0) .nil)) false)
  .nil) (.cons (.ife (.cmp .eq (.var 2) (.int 1)) (.cons (.asg 3 (.callD n_bracket (.cons (.var 0) (.cons (.var 1) .nil)) 1) false)
  .nil) (.cons (.asg 3 (.callK n_bracket (.cons (.var 0) (.cons (.var 1) .nil)) (.var 2)) false)
  .nil))
  .nil))
  .nil) 5 4)
  (.cons (.ret (.tup (.cons (.var 3) (.cons (.var 4) .nil))))
  .nil))))⟩
def d_l_told : DefI := ⟨"_law_told", 61, fd_l_told, ["one", "other", "many", "told", "kin", "e"], ["one", "other", "many"], top 61, none, none⟩
def lb_l_bracket_0 : Ss := (.cons (.app 6 (.call n_l_slope (.cons (.idx (.var 6) (.neg (.int 1))) .nil)))
  (.cons (.app 7 (.call n_l_slope (.cons (.idx (.var 7) (.neg (.int 1))) .nil)))
  .nil))
def lp_l_bracket_0 : S := .for_ (.var 3) (.rng (.cons (.var 2) .nil)) lb_l_bracket_0
def lb_l_bracket_1 : Ss := (.cons (.asg 8 (.bin .mul (.bin .mul (.call n_l_ways (.cons (.bin .sub (.bin .add (.idx (.var 0) (.int 0)) (.var 2)) (.int 1)) (.cons (.bin .sub (.var 2) (.var 5)) .nil))) (.call n_l_ways (.cons (.bin .sub (.bin .add (.idx (.var 1) (.int 0)) (.var 2)) (.int 1)) (.cons (.var 5) .nil)))) (.bin .sub (.int 1) (.bin .mul (.int 2) (.bin .mod (.var 5) (.int 2))))) false)
  (.cons (.asg 4 (.call n_l_form_sum (.cons (.var 4) (.cons (.call n_l_form_product (.cons (.idx (.var 6) (.var 5)) (.cons (.idx (.var 7) (.bin .sub (.var 2) (.var 5))) .nil))) (.cons (.tup (.cons (.var 8) (.cons (.int 1) .nil))) .nil)))) false)
  .nil))
def lp_l_bracket_1 : S := .for_ (.var 5) (.rng (.cons (.bin .add (.var 2) (.int 1)) .nil)) lb_l_bracket_1
def fd_l_bracket : Fd := ⟨9, 3, (.cons (.parO 6 7 (.lst (.cons (.var 0) .nil)) (.lst (.cons (.var 1) .nil)) true true)
  (.cons lp_l_bracket_0
  (.cons (.asg 4 (.tup (.cons (.bin .add (.bin .add (.idx (.var 0) (.int 0)) (.idx (.var 1) (.int 0))) (.bin .mul (.int 2) (.var 2))) (.cons (.tup .nil) .nil))) false)
  (.cons lp_l_bracket_1
  (.cons (.ret (.var 4))
  .nil)))))⟩
def d_l_bracket : DefI := ⟨"_law_bracket", 62, fd_l_bracket, ["one", "other", "many", "turn", "found", "r", "left", "right", "lead"], ["one", "other", "many"], top 62, none, none⟩
def cp_law_0 : Ex := .comp (.idx (.var 9) (.int 0)) (.var 9) (.it (.idx (.var 3) (.int 1))) .no [9]
def cp_law_1 : Ex := .comp (.idx (.var 9) (.int 0)) (.var 9) (.it (.idx (.var 4) (.int 1))) .no [9]
def lb_law_0 : Ss := (.cons (.asg 2 (.call n_l_draws (.cons (.var 1) (.cons (.int 120) (.cons (.int 1000) .nil)))) false)
  (.cons (.asg 3 (.call n_l_a_form (.cons (.slc (.var 2) (.yes (.int 10)) .no) (.cons (.call n_l_weight (.cons (.idx (.var 2) (.int 0)) .nil)) (.cons (.bin .fdv (.bin .mod (.idx (.var 2) (.int 1)) (.int 9)) (.int 8)) .nil)))) false)
  (.cons (.asg 4 (.call n_l_a_form (.cons (.slc (.var 2) (.yes (.int 60)) .no) (.cons (.call n_l_weight (.cons (.idx (.var 2) (.int 2)) .nil)) (.cons (.bin .fdv (.bin .mod (.idx (.var 2) (.int 3)) (.int 9)) (.int 8)) .nil)))) false)
  (.cons (.asg 5 (.bin .mod (.idx (.var 2) (.int 4)) (.idx (.lst (.cons (.int 3) (.cons (.int 11) .nil))) (.bin .mod (.idx (.var 2) (.int 5)) (.int 2)))) false)
  (.cons (.asg 6 (.bfn .max1 (.cons (.bin .add (.lst (.cons (.int 0) .nil)) cp_law_0) .nil)) false)
  (.cons (.asg 7 (.tup (.cons .non (.cons (.lst (.cons (.str (Str.ofString "NotPlain")) (.cons (.str (Str.ofString "ValueError")) .nil))) .nil))) false)
  (.cons (.ife (.cmp .eq (.var 6) (.int 0)) (.cons (.asg 7 (.tup (.cons .non (.cons (.lst (.cons (.str (Str.ofString "TooHeavy")) (.cons (.str (Str.ofString "ValueError")) .nil))) .nil))) false)
  (.cons (.ife (.cmp .lt (.idx (.var 3) (.int 0)) (.int 60)) (.cons (.asg 8 (.call n_l_form_product (.cons (.tup (.cons (.int 2) (.cons (.tup (.cons (.tup (.cons (.int 1) (.cons (.int 0) (.cons (.int 0) (.cons (.call n_l_frac (.cons (.ite (.cmp .gt (.idx (.var 3) (.int 0)) (.int 0)) (.neg (.idx (.var 3) (.int 0))) (.int 12)) (.cons (.int 12) .nil))) .nil))))) .nil)) .nil))) (.cons (.var 3) .nil))) false)
  (.cons (.asg 8 (.ite (.cmp .gt (.idx (.var 3) (.int 0)) (.int 0)) (.var 8) (.tup (.cons (.int 2) (.cons (.tup .nil) .nil)))) false)
  (.cons (.asg 7 (.tup (.cons (.call n_l_form_sum (.cons (.call n_l_slope (.cons (.var 3) .nil)) (.cons (.var 8) (.cons (.tup (.cons (.int 1) (.cons (.int 1) .nil))) .nil)))) (.cons (.lst .nil) .nil))) false)
  .nil))) .nil)
  .nil)) .nil)
  (.cons (.ife (.cmp .ne (.call n_l_told (.cons (.var 3) (.cons .non (.cons (.int 0) .nil)))) (.var 7)) (.cons (.ret (.bl false))
  .nil) .nil)
  (.cons (.asg 7 (.tup (.cons .non (.cons (.lst (.cons (.str (Str.ofString "NotPlain")) (.cons (.str (Str.ofString "ValueError")) .nil))) .nil))) false)
  (.cons (.ife (.cmp .eq (.bfn .max1 (.cons (.bin .add (.lst (.cons (.var 6) .nil)) cp_law_1) .nil)) (.int 0)) (.cons (.asg 7 (.tup (.cons .non (.cons (.lst (.cons (.str (Str.ofString "TooHeavy")) (.cons (.str (Str.ofString "ValueError")) .nil))) .nil))) false)
  (.cons (.ife (.cmp .le (.bin .add (.bin .add (.idx (.var 3) (.int 0)) (.idx (.var 4) (.int 0))) (.bin .mul (.int 2) (.var 5))) (.int 60)) (.cons (.asg 7 (.tup (.cons (.call n_l_bracket (.cons (.var 3) (.cons (.var 4) (.cons (.var 5) .nil)))) (.cons (.lst .nil) .nil))) false)
  .nil) .nil)
  .nil)) .nil)
  (.cons (.ife (.cmp .ne (.call n_l_told (.cons (.var 3) (.cons (.var 4) (.cons (.var 5) .nil)))) (.var 7)) (.cons (.ret (.bl false))
  .nil) .nil)
  .nil)))))))))))
def lp_law_0 : S := .for_ (.var 1) (.it (.bin .add (.lst (.cons (.call n_l_cell_at (.cons (.var 0) (.cons (.int 0) .nil))) .nil)) (.slc (.var 0) (.yes (.int 1)) (.yes (.int 4))))) lb_law_0
def fd_law : Fd := ⟨10, 1, (.cons lp_law_0
  (.cons (.ret (.bl true))
  .nil))⟩
def d_law : DefI := ⟨"law", 63, fd_law, ["script", "cell", "picks", "one", "other", "many", "steep", "due", "lead", "term"], ["script"], top 63, none, none⟩
def defs : List DefI := [d_divisor, d_fraction, d_added, d_times, d_ways, d_gathered, d_depth, d_is_plain, d_check_weight, d_form_sum, d_form_times, d_form_product, d_rated, d_slope, d_check_plain, d_upright, d_lowest, d_slopes, d_bracket, d_l_cell_at, d_l_draws, d_l_gcd, d_l_frac, d_l_add, d_l_mul, d_l_a_number, d_l_triples, d_l_gathered, d_l_a_form, d_l_weight, d_l_form_sum, d_l_form_product, d_l_slope, d_l_ways, d_l_told, d_l_bracket, d_law]
def P : Nat → Option Fd
  | 21 => some fd_divisor
  | 22 => some fd_fraction
  | 23 => some fd_added
  | 24 => some fd_times
  | 25 => some fd_ways
  | 28 => some fd_gathered
  | 29 => some fd_depth
  | 30 => some fd_is_plain
  | 31 => some fd_check_weight
  | 32 => some fd_form_sum
  | 33 => some fd_form_times
  | 34 => some fd_form_product
  | 35 => some fd_rated
  | 36 => some fd_slope
  | 38 => some fd_check_plain
  | 40 => some fd_upright
  | 41 => some fd_lowest
  | 42 => some fd_slopes
  | 43 => some fd_bracket
  | 45 => some fd_l_cell_at
  | 46 => some fd_l_draws
  | 47 => some fd_l_gcd
  | 48 => some fd_l_frac
  | 49 => some fd_l_add
  | 50 => some fd_l_mul
  | 51 => some fd_l_a_number
  | 52 => some fd_l_triples
  | 53 => some fd_l_gathered
  | 54 => some fd_l_a_form
  | 55 => some fd_l_weight
  | 56 => some fd_l_form_sum
  | 57 => some fd_l_form_product
  | 58 => some fd_l_slope
  | 59 => some fd_l_ways
  | 61 => some fd_l_told
  | 62 => some fd_l_bracket
  | 63 => some fd_law
  | _ => none
def C : Nat → D
  | 19 => .tup [.int 0, .int 1]
  | 20 => .tup [.int 1, .int 1]
  | 27 => .int 60
  | 3 => .tup [.exc 3, .lst [.str (Str.ofString "NoShare"), .str (Str.ofString "ValueError")]]
  | 4 => .tup [.exc 4, .lst [.str (Str.ofString "Unlike"), .str (Str.ofString "ValueError")]]
  | 5 => .tup [.exc 5, .lst [.str (Str.ofString "TooHeavy"), .str (Str.ofString "ValueError")]]
  | 7 => .tup [.exc 7, .lst [.str (Str.ofString "NotPlain"), .str (Str.ofString "ValueError")]]
  | _ => .non
def kinItems : List (Str × Str) := [(Str.ofString "NoShare", Str.ofString "NoShare"), (Str.ofString "Unlike", Str.ofString "Unlike"), (Str.ofString "TooHeavy", Str.ofString "TooHeavy"), (Str.ofString "Short", Str.ofString "Short"), (Str.ofString "NotPlain", Str.ofString "NotPlain"), (Str.ofString "NotWhole", Str.ofString "NotWhole"), (Str.ofString "Nought", Str.ofString "Nought"), (Str.ofString "NoName", Str.ofString "NoName"), (Str.ofString "NoForm", Str.ofString "NoForm"), (Str.ofString "NoRecipe", Str.ofString "NoRecipe"), (Str.ofString "NoCell", Str.ofString "NoCell"), (Str.ofString "Ring", Str.ofString "Ring"), (Str.ofString "TooMany", Str.ofString "TooMany"), (Str.ofString "NotMade", Str.ofString "NotMade"), (Str.ofString "InUse", Str.ofString "InUse"), (Str.ofString "NoText", Str.ofString "NoText"), (Str.ofString "ValueError", Str.ofString "ValueError")]
theorem kin_ok : Rv.kinOk (top 60) kinItems = true := by decide +kernel
theorem kin_sc : FnScope Rv.kinN [Str.ofString "e"] (defScope (top 60)) := ⟨rfl, rfl, rfl, by decide +kernel, rfl, by decide +kernel, by decide +kernel⟩
theorem kin_bd : Rv.BdOk (Str.ofString "_law_kin") (top 60) [Str.ofString "e"] none none := .plain fun _ _ _ _ _ _ us hl => match us, hl with | [_], _ => rfl
def kr_NoShare : List (Str × Bool) := [(Str.ofString "NoShare", true), (Str.ofString "Unlike", false), (Str.ofString "TooHeavy", false), (Str.ofString "Short", false), (Str.ofString "NotPlain", false), (Str.ofString "NotWhole", false), (Str.ofString "Nought", false), (Str.ofString "NoName", false), (Str.ofString "NoForm", false), (Str.ofString "NoRecipe", false), (Str.ofString "NoCell", false), (Str.ofString "Ring", false), (Str.ofString "TooMany", false), (Str.ofString "NotMade", false), (Str.ofString "InUse", false), (Str.ofString "NoText", false), (Str.ofString "ValueError", true)]
def kr_Unlike : List (Str × Bool) := [(Str.ofString "NoShare", false), (Str.ofString "Unlike", true), (Str.ofString "TooHeavy", false), (Str.ofString "Short", false), (Str.ofString "NotPlain", false), (Str.ofString "NotWhole", false), (Str.ofString "Nought", false), (Str.ofString "NoName", false), (Str.ofString "NoForm", false), (Str.ofString "NoRecipe", false), (Str.ofString "NoCell", false), (Str.ofString "Ring", false), (Str.ofString "TooMany", false), (Str.ofString "NotMade", false), (Str.ofString "InUse", false), (Str.ofString "NoText", false), (Str.ofString "ValueError", true)]
def kr_TooHeavy : List (Str × Bool) := [(Str.ofString "NoShare", false), (Str.ofString "Unlike", false), (Str.ofString "TooHeavy", true), (Str.ofString "Short", false), (Str.ofString "NotPlain", false), (Str.ofString "NotWhole", false), (Str.ofString "Nought", false), (Str.ofString "NoName", false), (Str.ofString "NoForm", false), (Str.ofString "NoRecipe", false), (Str.ofString "NoCell", false), (Str.ofString "Ring", false), (Str.ofString "TooMany", false), (Str.ofString "NotMade", false), (Str.ofString "InUse", false), (Str.ofString "NoText", false), (Str.ofString "ValueError", true)]
def kr_NotPlain : List (Str × Bool) := [(Str.ofString "NoShare", false), (Str.ofString "Unlike", false), (Str.ofString "TooHeavy", false), (Str.ofString "Short", false), (Str.ofString "NotPlain", true), (Str.ofString "NotWhole", false), (Str.ofString "Nought", false), (Str.ofString "NoName", false), (Str.ofString "NoForm", false), (Str.ofString "NoRecipe", false), (Str.ofString "NoCell", false), (Str.ofString "Ring", false), (Str.ofString "TooMany", false), (Str.ofString "NotMade", false), (Str.ofString "InUse", false), (Str.ofString "NoText", false), (Str.ofString "ValueError", true)]
def T : Tab := ⟨fnTab defs, [("NOUGHT", 19), ("ONE", 20), ("HEAVIEST", 27)], [("TurnError", 1), ("NoShare", 3), ("Unlike", 4), ("TooHeavy", 5), ("Short", 6), ("NotPlain", 7), ("NotWhole", 8), ("Nought", 9), ("NoName", 10), ("NoForm", 11), ("NoRecipe", 12), ("NoCell", 13), ("Ring", 14), ("TooMany", 15), ("InUse", 16), ("NoText", 17)]⟩
theorem ok_divisor : DefOk T P d_divisor := ⟨⟨rfl, rfl, rfl, by decide +kernel, rfl, by decide +kernel, by decide +kernel⟩, .plain fun _ _ _ _ _ _ us hl => match us, hl with | [_, _], _ => rfl, rfl, rfl, rfl, by decide +kernel⟩
theorem ok_fraction : DefOk T P d_fraction := ⟨⟨rfl, rfl, rfl, by decide +kernel, rfl, by decide +kernel, by decide +kernel⟩, .plain fun _ _ _ _ _ _ us hl => match us, hl with | [_, _], _ => rfl, rfl, rfl, rfl, by decide +kernel⟩
theorem ok_added : DefOk T P d_added := ⟨⟨rfl, rfl, rfl, by decide +kernel, rfl, by decide +kernel, by decide +kernel⟩, .plain fun _ _ _ _ _ _ us hl => match us, hl with | [_, _], _ => rfl, rfl, rfl, rfl, by decide +kernel⟩
theorem ok_times : DefOk T P d_times := ⟨⟨rfl, rfl, rfl, by decide +kernel, rfl, by decide +kernel, by decide +kernel⟩, .plain fun _ _ _ _ _ _ us hl => match us, hl with | [_, _], _ => rfl, rfl, rfl, rfl, by decide +kernel⟩
theorem ok_ways : DefOk T P d_ways := ⟨⟨rfl, rfl, rfl, by decide +kernel, rfl, by decide +kernel, by decide +kernel⟩, .plain fun _ _ _ _ _ _ us hl => match us, hl with | [_, _], _ => rfl, rfl, rfl, rfl, by decide +kernel⟩
theorem ok_gathered : DefOk T P d_gathered := ⟨⟨rfl, rfl, rfl, by decide +kernel, rfl, by decide +kernel, by decide +kernel⟩, .plain fun _ _ _ _ _ _ us hl => match us, hl with | [_, _], _ => rfl, rfl, rfl, rfl, by decide +kernel⟩
theorem ok_depth : DefOk T P d_depth := ⟨⟨rfl, rfl, rfl, by decide +kernel, rfl, by decide +kernel, by decide +kernel⟩, .plain fun _ _ _ _ _ _ us hl => match us, hl with | [_], _ => rfl, rfl, rfl, rfl, by decide +kernel⟩
theorem ok_is_plain : DefOk T P d_is_plain := ⟨⟨rfl, rfl, rfl, by decide +kernel, rfl, by decide +kernel, by decide +kernel⟩, .plain fun _ _ _ _ _ _ us hl => match us, hl with | [_], _ => rfl, rfl, rfl, rfl, by decide +kernel⟩
theorem ok_check_weight : DefOk T P d_check_weight := ⟨⟨rfl, rfl, rfl, by decide +kernel, rfl, by decide +kernel, by decide +kernel⟩, .plain fun _ _ _ _ _ _ us hl => match us, hl with | [_], _ => rfl, rfl, rfl, rfl, by decide +kernel⟩
theorem ok_form_sum : DefOk T P d_form_sum := ⟨⟨rfl, rfl, rfl, by decide +kernel, rfl, by decide +kernel, by decide +kernel⟩, .plain fun _ _ _ _ _ _ us hl => match us, hl with | [_, _], _ => rfl, rfl, rfl, rfl, by decide +kernel⟩
theorem ok_form_times : DefOk T P d_form_times := ⟨⟨rfl, rfl, rfl, by decide +kernel, rfl, by decide +kernel, by decide +kernel⟩, .plain fun _ _ _ _ _ _ us hl => match us, hl with | [_, _], _ => rfl, rfl, rfl, rfl, by decide +kernel⟩
theorem ok_form_product : DefOk T P d_form_product := ⟨⟨rfl, rfl, rfl, by decide +kernel, rfl, by decide +kernel, by decide +kernel⟩, .plain fun _ _ _ _ _ _ us hl => match us, hl with | [_, _], _ => rfl, rfl, rfl, rfl, by decide +kernel⟩
theorem ok_rated : DefOk T P d_rated := ⟨⟨rfl, rfl, rfl, by decide +kernel, rfl, by decide +kernel, by decide +kernel⟩, .plain fun _ _ _ _ _ _ us hl => match us, hl with | [_, _, _], _ => rfl, rfl, rfl, rfl, by decide +kernel⟩
theorem ok_slope : DefOk T P d_slope := ⟨⟨rfl, rfl, rfl, by decide +kernel, rfl, by decide +kernel, by decide +kernel⟩, .plain fun _ _ _ _ _ _ us hl => match us, hl with | [_], _ => rfl, rfl, rfl, rfl, by decide +kernel⟩
theorem ok_check_plain : DefOk T P d_check_plain := ⟨⟨rfl, rfl, rfl, by decide +kernel, rfl, by decide +kernel, by decide +kernel⟩, .plain fun _ _ _ _ _ _ us hl => match us, hl with | [_], _ => rfl, rfl, rfl, rfl, by decide +kernel⟩
theorem ok_upright : DefOk T P d_upright := ⟨⟨rfl, rfl, rfl, by decide +kernel, rfl, by decide +kernel, by decide +kernel⟩, .plain fun _ _ _ _ _ _ us hl => match us, hl with | [_], _ => rfl, rfl, rfl, rfl, by decide +kernel⟩
theorem ok_lowest : DefOk T P d_lowest := ⟨⟨rfl, rfl, rfl, by decide +kernel, rfl, by decide +kernel, by decide +kernel⟩, .plain fun _ _ _ _ _ _ us hl => match us, hl with | [_, _], _ => rfl, rfl, rfl, rfl, by decide +kernel⟩
theorem ok_slopes : DefOk T P d_slopes := ⟨⟨rfl, rfl, rfl, by decide +kernel, rfl, by decide +kernel, by decide +kernel⟩, .plain fun _ _ _ _ _ _ us hl => match us, hl with | [_, _], _ => rfl, rfl, rfl, rfl, by decide +kernel⟩
theorem ok_bracket : DefOk T P d_bracket := ⟨⟨rfl, rfl, rfl, by decide +kernel, rfl, by decide +kernel, by decide +kernel⟩, .kwo _ _ (fun _ _ _ _ _ _ us ks hl h2 => match us, ks, hl, h2 with | [_, _], [_], _, _ => ⟨_, _, _, _, _, _, rfl, rfl, rfl⟩) (fun _ _ _ _ _ _ us ws hl h2 => match us, ws, hl, h2 with | [_, _], [_], _, _ => rfl), rfl, rfl, rfl, by decide +kernel⟩
theorem ok_l_cell_at : DefOk T P d_l_cell_at := ⟨⟨rfl, rfl, rfl, by decide +kernel, rfl, by decide +kernel, by decide +kernel⟩, .plain fun _ _ _ _ _ _ us hl => match us, hl with | [_, _], _ => rfl, rfl, rfl, rfl, by decide +kernel⟩
theorem ok_l_draws : DefOk T P d_l_draws := ⟨⟨rfl, rfl, rfl, by decide +kernel, rfl, by decide +kernel, by decide +kernel⟩, .plain fun _ _ _ _ _ _ us hl => match us, hl with | [_, _, _], _ => rfl, rfl, rfl, rfl, by decide +kernel⟩
theorem ok_l_gcd : DefOk T P d_l_gcd := ⟨⟨rfl, rfl, rfl, by decide +kernel, rfl, by decide +kernel, by decide +kernel⟩, .plain fun _ _ _ _ _ _ us hl => match us, hl with | [_, _], _ => rfl, rfl, rfl, rfl, by decide +kernel⟩
theorem ok_l_frac : DefOk T P d_l_frac := ⟨⟨rfl, rfl, rfl, by decide +kernel, rfl, by decide +kernel, by decide +kernel⟩, .plain fun _ _ _ _ _ _ us hl => match us, hl with | [_, _], _ => rfl, rfl, rfl, rfl, by decide +kernel⟩
theorem ok_l_add : DefOk T P d_l_add := ⟨⟨rfl, rfl, rfl, by decide +kernel, rfl, by decide +kernel, by decide +kernel⟩, .plain fun _ _ _ _ _ _ us hl => match us, hl with | [_, _], _ => rfl, rfl, rfl, rfl, by decide +kernel⟩
theorem ok_l_mul : DefOk T P d_l_mul := ⟨⟨rfl, rfl, rfl, by decide +kernel, rfl, by decide +kernel, by decide +kernel⟩, .plain fun _ _ _ _ _ _ us hl => match us, hl with | [_, _], _ => rfl, rfl, rfl, rfl, by decide +kernel⟩
theorem ok_l_a_number : DefOk T P d_l_a_number := ⟨⟨rfl, rfl, rfl, by decide +kernel, rfl, by decide +kernel, by decide +kernel⟩, .plain fun _ _ _ _ _ _ us hl => match us, hl with | [_], _ => rfl, rfl, rfl, rfl, by decide +kernel⟩
theorem ok_l_triples : DefOk T P d_l_triples := ⟨⟨rfl, rfl, rfl, by decide +kernel, rfl, by decide +kernel, by decide +kernel⟩, .plain fun _ _ _ _ _ _ us hl => match us, hl with | [_, _], _ => rfl, rfl, rfl, rfl, by decide +kernel⟩
theorem ok_l_gathered : DefOk T P d_l_gathered := ⟨⟨rfl, rfl, rfl, by decide +kernel, rfl, by decide +kernel, by decide +kernel⟩, .plain fun _ _ _ _ _ _ us hl => match us, hl with | [_, _], _ => rfl, rfl, rfl, rfl, by decide +kernel⟩
theorem ok_l_a_form : DefOk T P d_l_a_form := ⟨⟨rfl, rfl, rfl, by decide +kernel, rfl, by decide +kernel, by decide +kernel⟩, .plain fun _ _ _ _ _ _ us hl => match us, hl with | [_, _, _], _ => rfl, rfl, rfl, rfl, by decide +kernel⟩
theorem ok_l_weight : DefOk T P d_l_weight := ⟨⟨rfl, rfl, rfl, by decide +kernel, rfl, by decide +kernel, by decide +kernel⟩, .plain fun _ _ _ _ _ _ us hl => match us, hl with | [_], _ => rfl, rfl, rfl, rfl, by decide +kernel⟩
theorem ok_l_form_sum : DefOk T P d_l_form_sum := ⟨⟨rfl, rfl, rfl, by decide +kernel, rfl, by decide +kernel, by decide +kernel⟩, .plain fun _ _ _ _ _ _ us hl => match us, hl with | [_, _, _], _ => rfl, rfl, rfl, rfl, by decide +kernel⟩
theorem ok_l_form_product : DefOk T P d_l_form_product := ⟨⟨rfl, rfl, rfl, by decide +kernel, rfl, by decide +kernel, by decide +kernel⟩, .plain fun _ _ _ _ _ _ us hl => match us, hl with | [_, _], _ => rfl, rfl, rfl, rfl, by decide +kernel⟩
theorem ok_l_slope : DefOk T P d_l_slope := ⟨⟨rfl, rfl, rfl, by decide +kernel, rfl, by decide +kernel, by decide +kernel⟩, .plain fun _ _ _ _ _ _ us hl => match us, hl with | [_], _ => rfl, rfl, rfl, rfl, by decide +kernel⟩
theorem ok_l_ways : DefOk T P d_l_ways := ⟨⟨rfl, rfl, rfl, by decide +kernel, rfl, by decide +kernel, by decide +kernel⟩, .plain fun _ _ _ _ _ _ us hl => match us, hl with | [_, _], _ => rfl, rfl, rfl, rfl, by decide +kernel⟩
theorem ok_l_told : DefOk T P d_l_told := ⟨⟨rfl, rfl, rfl, by decide +kernel, rfl, by decide +kernel, by decide +kernel⟩, .plain fun _ _ _ _ _ _ us hl => match us, hl with | [_, _, _], _ => rfl, rfl, rfl, rfl, by decide +kernel⟩
theorem ok_l_bracket : DefOk T P d_l_bracket := ⟨⟨rfl, rfl, rfl, by decide +kernel, rfl, by decide +kernel, by decide +kernel⟩, .plain fun _ _ _ _ _ _ us hl => match us, hl with | [_, _, _], _ => rfl, rfl, rfl, rfl, by decide +kernel⟩
theorem ok_law : DefOk T P d_law := ⟨⟨rfl, rfl, rfl, by decide +kernel, rfl, by decide +kernel, by decide +kernel⟩, .plain fun _ _ _ _ _ _ us hl => match us, hl with | [_], _ => rfl, rfl, rfl, rfl, by decide +kernel⟩
theorem all_ok : ∀ d ∈ defs, DefOk T P d := fun d h => by
  simp only [defs, List.mem_cons, List.not_mem_nil, or_false] at h
  rcases h with rfl | rfl | rfl | rfl | rfl | rfl | rfl | rfl | rfl | rfl | rfl | rfl | rfl | rfl | rfl | rfl | rfl | rfl | rfl | rfl | rfl | rfl | rfl | rfl | rfl | rfl | rfl | rfl | rfl | rfl | rfl | rfl | rfl | rfl | rfl | rfl | rfl
  · exact ok_divisor
  · exact ok_fraction
  · exact ok_added
  · exact ok_times
  · exact ok_ways
  · exact ok_gathered
  · exact ok_depth
  · exact ok_is_plain
  · exact ok_check_weight
  · exact ok_form_sum
  · exact ok_form_times
  · exact ok_form_product
  · exact ok_rated
  · exact ok_slope
  · exact ok_check_plain
  · exact ok_upright
  · exact ok_lowest
  · exact ok_slopes
  · exact ok_bracket
  · exact ok_l_cell_at
  · exact ok_l_draws
  · exact ok_l_gcd
  · exact ok_l_frac
  · exact ok_l_add
  · exact ok_l_mul
  · exact ok_l_a_number
  · exact ok_l_triples
  · exact ok_l_gathered
  · exact ok_l_a_form
  · exact ok_l_weight
  · exact ok_l_form_sum
  · exact ok_l_form_product
  · exact ok_l_slope
  · exact ok_l_ways
  · exact ok_l_told
  · exact ok_l_bracket
  · exact ok_law
/-! fractions of the program -/
theorem abs_nat (a : Int) : (if a < 0 then -a else a) = (a.natAbs : Int) := by split <;> omega
theorem lp_divisor (Φ : Nat → List D → R D) (a b : Nat) : exS Φ C lp_divisor_0 [.sh (.int a), .sh (.int b)] = .nx [.sh (.int (Nat.gcd a b)), .sh (.int 0)] := by
  unfold lp_divisor_0
  rw [exS_whl]
  refine whl_ind (Q := fun o => o = .nx [.sh (.int (Nat.gcd a b)), .sh (.int 0)]) (fun m ρ => ∃ x : Nat, ρ = [.sh (.int x), .sh (.int m)] ∧ Nat.gcd x m = Nat.gcd a b) ?_ (m := b) ⟨a, rfl, rfl⟩
  rintro m ρ ⟨x, rfl, hg⟩
  by_cases h : m = 0
  · subst h
    refine .inl ⟨by simp, ?_⟩
    rw [Nat.gcd_zero_right] at hg
    rw [hg]; rfl
  · refine .inr ⟨by simp; omega, [.sh (.int m), .sh (.int (x % m : Nat))], x % m, .inl ?_, Nat.mod_lt _ (Nat.pos_of_ne_zero h), m, rfl, ?_⟩
    · simp only [lb_divisor_0, exSs_cons, exS_par, ev_var, ev_bin]
      simp [bin_mod (show (m : Int) ≠ 0 by omega), stE]
      rw [Int.fmod_eq_emod_of_nonneg _ (by omega)]
    · rw [← hg, Nat.gcd_comm m, ← Nat.gcd_rec, Nat.gcd_comm]
theorem divisor_at {n : Nat} (a b : Int) : call P C (n + 1) n_divisor [.int a, .int b] = .ok (.int (Int.gcd a b)) := by
  refine call_run rfl rfl (ρ := [.sh (.int a), .sh (.int b)]) rfl ?_
  simp [fd_divisor, stE, abs_nat, lp_divisor]
  rfl
def frD (q : Rat) : D := .tup [.int q.num, .int q.den]
def Sz (k : Nat) (q : Rat) : Prop := q.num.natAbs < 2 ^ k ∧ q.den < 2 ^ k
theorem Sz.mono {j k : Nat} {q : Rat} (h : Sz j q) (l : j ≤ k) : Sz k q := ⟨Nat.lt_of_lt_of_le h.1 (Nat.pow_le_pow_right (by omega) l), Nat.lt_of_lt_of_le h.2 (Nat.pow_le_pow_right (by omega) l)⟩
theorem log2_of {n k : Nat} (h : n < 2 ^ k) (hk : 0 < k) : n.log2 < k := by
  by_cases h0 : n = 0
  · subst h0; have : Nat.log2 0 = 0 := by decide
    omega
  · exact (Nat.log2_lt h0).mpr h
theorem mulOk_of {i j : Int} {a b : Nat} (hi : i.natAbs < 2 ^ a) (hj : j.natAbs < 2 ^ b) (ha : a ≤ 30000000) (hb : b ≤ 30000000) : mulOk i j := by
  refine .inr ⟨?_, ?_⟩
  · have := log2_of (Nat.lt_of_lt_of_le hi (Nat.pow_le_pow_right (by omega) (Nat.le_succ a))) (Nat.succ_pos a)
    omega
  · have := log2_of (Nat.lt_of_lt_of_le hj (Nat.pow_le_pow_right (by omega) (Nat.le_succ b))) (Nat.succ_pos b)
    omega
theorem divOk_of {j : Int} (h0 : j ≠ 0) (h : j.natAbs < 2 ^ 9000) : divOk j := ⟨h0, log2_of h (by decide)⟩
theorem mul_lt {x y a b : Nat} (hx : x < 2 ^ a) (hy : y < 2 ^ b) : x * y < 2 ^ (a + b) := by
  rw [Nat.pow_add]
  exact Nat.mul_lt_mul'' hx hy
theorem divInt_parts {t b : Int} (hb : b ≠ 0) : ((Rat.divInt t b).num = t.fdiv (if b < 0 then -(Int.gcd t b : Int) else Int.gcd t b)) ∧ (((Rat.divInt t b).den : Int) = b.fdiv (if b < 0 then -(Int.gcd t b : Int) else Int.gcd t b)) := by
  have hg : (Int.gcd t b : Int) ≠ 0 := by
    have := Int.gcd_pos_of_ne_zero_right t hb
    omega
  rw [Rat.num_divInt, Rat.den_divInt, if_neg hb, Int.gcd_comm b t]
  obtain ⟨x, hx⟩ := Int.gcd_dvd_left t b
  obtain ⟨y, hy⟩ := Int.gcd_dvd_right t b
  generalize hG : (Int.gcd t b : Nat) = g at *
  have hg' : (g : Int) ≠ 0 := hg
  have hgp : (0 : Int) < g := by omega
  have dv : ∀ z : Int, ((g : Int) * z).fdiv g = z := fun z => by rw [Int.fdiv_eq_ediv_of_nonneg _ (by omega)]; exact Int.mul_ediv_cancel_left z hg'
  have dn : ∀ z : Int, ((g : Int) * z).fdiv (-(g : Int)) = -z := fun z => by
    have : (g : Int) * z = (-(g : Int)) * (-z) := by rw [Int.neg_mul_neg]
    rw [this, Int.mul_comm, Int.mul_fdiv_cancel _ (by omega)]
  by_cases h : b < 0
  · rw [if_pos h, Int.sign_eq_neg_one_of_neg h]
    refine ⟨?_, ?_⟩
    · rw [hx, dn]
      have : (-1 : Int) * ((g : Int) * x) = (g : Int) * (-x) := by rw [Int.mul_neg, Int.neg_one_mul]
      rw [this, Int.mul_ediv_cancel_left _ hg']
    · rw [hy, dn]
      have hyn : y < 0 := by
        rcases Int.lt_or_le y 0 with q | q
        · exact q
        · have := Int.mul_nonneg (Int.le_of_lt hgp) q
          omega
      have e : ((g : Int) * y).natAbs = g * y.natAbs := by rw [Int.natAbs_mul]; rfl
      rw [e, Nat.mul_div_cancel_left _ (by omega)]
      omega
  · rw [if_neg h, Int.sign_eq_one_of_pos (by omega)]
    refine ⟨?_, ?_⟩
    · rw [hx, dv, Int.one_mul, Int.mul_ediv_cancel_left _ hg']
    · rw [hy, dv]
      have hyn : 0 < y := by
        rcases Int.lt_or_le 0 y with q | q
        · exact q
        · have := Int.mul_nonpos_of_nonneg_of_nonpos (Int.le_of_lt hgp) q
          omega
      have e : ((g : Int) * y).natAbs = g * y.natAbs := by rw [Int.natAbs_mul]; rfl
      rw [e, Nat.mul_div_cancel_left _ (by omega)]
      omega
theorem gcd_lt {t b : Int} {k : Nat} (hb : b ≠ 0) (h : b.natAbs < 2 ^ k) : Int.gcd t b < 2 ^ k := by
  have := Nat.le_of_dvd (by omega) (Nat.gcd_dvd_right t.natAbs b.natAbs)
  exact Nat.lt_of_le_of_lt this h
theorem gdivOk {t b : Int} (hb : b ≠ 0) (h : b.natAbs < 2 ^ 9000) : divOk (if b < 0 then -(Int.gcd t b : Int) else Int.gcd t b) := by
  have hg := Int.gcd_pos_of_ne_zero_right t hb
  have hl := gcd_lt (t := t) hb h
  refine divOk_of ?_ ?_
  · split <;> omega
  · split
    · rw [Int.natAbs_neg, Int.natAbs_natCast]; exact hl
    · rw [Int.natAbs_natCast]; exact hl
theorem fraction_at {n : Nat} {t b : Int} (hb : b ≠ 0) (h : b.natAbs < 2 ^ 9000) : call P C (n + 2) n_fraction [.int t, .int b] = .ok (frD (Rat.divInt t b)) := by
  refine call_run rfl rfl (ρ := [.sh (.int t), .sh (.int b), .un]) rfl ?_
  have d := divisor_at (n := n) t b
  obtain ⟨p1, p2⟩ := divInt_parts (t := t) hb
  have ok := gdivOk (t := t) hb h
  have e0 : cmpV .eq (.int b) (.int 0) = .ok false := by simp [cmpV, eqOk, dEq, D.py, PyData.eqv, hb]
  simp only [fd_fraction, exSs_cons, exS_ife, ev_cmp, ev_var, ev_int]
  unfold n_divisor at d
  by_cases hn : b < 0
  · rw [if_pos hn] at p1 p2 ok
    simp [e0, stE, d, hn, bin_fdv ok, LL]
    rw [frD, p1, p2]
  · rw [if_neg hn] at p1 p2 ok
    simp [e0, stE, d, hn, bin_fdv ok, LL]
    rw [frD, p1, p2]
@[simp] theorem frI0 (q : Rat) : idxV (frD q) (.int 0) = .ok (.int q.num) := rfl
@[simp] theorem frI1 (q : Rat) : idxV (frD q) (.int 1) = .ok (.int q.den) := rfl
theorem frD_pair (q : Rat) : D.tup [.int q.num, .int q.den] = frD q := rfl
theorem den_ne (q : Rat) : (q.den : Int) ≠ 0 := by have := q.den_nz; omega
theorem num_ne {q : Rat} (h : q ≠ 0) : q.num ≠ 0 := fun z => h (Rat.num_eq_zero.mp z)
theorem natAbs_den (q : Rat) : (q.den : Int).natAbs = q.den := Int.natAbs_natCast _
theorem divInt_sz {t b : Int} {k : Nat} (hb : b ≠ 0) (h1 : t.natAbs < 2 ^ k) (h2 : b.natAbs < 2 ^ k) : Sz k (Rat.divInt t b) := by
  refine ⟨?_, ?_⟩
  · rw [Rat.num_divInt, Int.natAbs_ediv_of_dvd]
    · rw [Int.natAbs_mul, Int.natAbs_natCast]
      have : b.sign.natAbs = 1 := Int.natAbs_sign_of_ne_zero hb
      rw [this, Nat.one_mul]
      exact Nat.lt_of_le_of_lt (Nat.div_le_self _ _) h1
    · exact Int.dvd_trans (Int.gcd_dvd_right b t) (Int.dvd_mul_left _ _)
  · rw [Rat.den_divInt, if_neg hb]
    exact Nat.lt_of_le_of_lt (Nat.div_le_self _ _) h2
theorem add_eq (p q : Rat) : Rat.divInt (p.num * q.den + q.num * p.den) (p.den * q.den) = p + q := by
  rw [← Rat.divInt_add_divInt _ _ (den_ne p) (den_ne q), Rat.num_divInt_den, Rat.num_divInt_den]
theorem mul_eq (p q : Rat) : Rat.divInt (p.num * q.num) (p.den * q.den) = p * q := by
  rw [← Rat.divInt_mul_divInt, Rat.num_divInt_den, Rat.num_divInt_den]
theorem div_eq (p q : Rat) : Rat.divInt (p.num * q.den) (p.den * q.num) = p / q := by
  have h : q⁻¹ = Rat.divInt q.den q.num := by rw [← Rat.inv_divInt, Rat.num_divInt_den]
  rw [← Rat.divInt_mul_divInt, Rat.num_divInt_den, ← h, Rat.div_def]
theorem dd_lt {p q : Rat} {a b : Nat} (hp : Sz a p) (hq : Sz b q) : ((p.den : Int) * q.den).natAbs < 2 ^ (a + b) := by
  rw [Int.natAbs_mul, natAbs_den, natAbs_den]
  exact mul_lt hp.2 hq.2
theorem sz_add {p q : Rat} {a b : Nat} (hp : Sz a p) (hq : Sz b q) : Sz (a + b + 1) (p + q) := by
  rw [← add_eq]
  refine divInt_sz (by have := den_ne p; have := den_ne q; exact Int.mul_ne_zero ‹_› ‹_›) ?_ ?_
  · have h1 := mul_lt hp.1 hq.2
    have h2 := mul_lt hq.1 hp.2
    have e1 : (p.num * q.den).natAbs = p.num.natAbs * q.den := by rw [Int.natAbs_mul, natAbs_den]
    have e2 : (q.num * p.den).natAbs = q.num.natAbs * p.den := by rw [Int.natAbs_mul, natAbs_den]
    rw [Nat.add_comm b a] at h2
    rw [Nat.pow_succ]
    omega
  · exact Nat.lt_of_lt_of_le (dd_lt hp hq) (Nat.pow_le_pow_right (by omega) (by omega))
theorem sz_mul {p q : Rat} {a b : Nat} (hp : Sz a p) (hq : Sz b q) : Sz (a + b) (p * q) := by
  rw [← mul_eq]
  refine divInt_sz (by have := den_ne p; have := den_ne q; exact Int.mul_ne_zero ‹_› ‹_›) ?_ (dd_lt hp hq)
  rw [Int.natAbs_mul]
  exact mul_lt hp.1 hq.1
theorem sz_div {p q : Rat} {a b : Nat} (hp : Sz a p) (hq : Sz b q) (h0 : q ≠ 0) : Sz (a + b) (p / q) := by
  rw [← div_eq]
  refine divInt_sz (Int.mul_ne_zero (den_ne p) (num_ne h0)) ?_ ?_
  · rw [Int.natAbs_mul, natAbs_den]; exact mul_lt hp.1 hq.2
  · rw [Int.natAbs_mul, natAbs_den]; exact mul_lt hp.2 hq.1
theorem le9000 {x k : Nat} (h : x < 2 ^ k) (hk : k ≤ 9000) : x < 2 ^ 9000 := Nat.lt_of_lt_of_le h (Nat.pow_le_pow_right (by omega) hk)
theorem mulND {p q : Rat} {a b : Nat} (hp : Sz a p) (hq : Sz b q) (h : a + b ≤ 9000) : mulOk p.num q.den := mulOk_of hp.1 (by rw [natAbs_den]; exact hq.2) (by omega) (by omega)
theorem mulNN {p q : Rat} {a b : Nat} (hp : Sz a p) (hq : Sz b q) (h : a + b ≤ 9000) : mulOk p.num q.num := mulOk_of hp.1 hq.1 (by omega) (by omega)
theorem mulDN {p q : Rat} {a b : Nat} (hp : Sz a p) (hq : Sz b q) (h : a + b ≤ 9000) : mulOk p.den q.num := mulOk_of (by rw [natAbs_den]; exact hp.2) hq.1 (by omega) (by omega)
theorem mulDD {p q : Rat} {a b : Nat} (hp : Sz a p) (hq : Sz b q) (h : a + b ≤ 9000) : mulOk p.den q.den := mulOk_of (by rw [natAbs_den]; exact hp.2) (by rw [natAbs_den]; exact hq.2) (by omega) (by omega)
theorem added_at {n : Nat} {p q : Rat} {a b : Nat} (hp : Sz a p) (hq : Sz b q) (h : a + b ≤ 9000) : call P C (n + 3) n_added [frD p, frD q] = .ok (frD (p + q)) := by
  refine call_run rfl rfl (ρ := [.sh (frD p), .sh (frD q)]) rfl ?_
  have f := fraction_at (n := n) (t := p.num * q.den + q.num * p.den) (b := p.den * q.den) (Int.mul_ne_zero (den_ne p) (den_ne q)) (le9000 (dd_lt hp hq) h)
  unfold n_fraction at f
  simp [fd_added, bin_mul (mulND hp hq h), bin_mul (mulND hq hp (by omega)), bin_mul (mulDD hp hq h), f, add_eq]
theorem times_at {n : Nat} {p q : Rat} {a b : Nat} (hp : Sz a p) (hq : Sz b q) (h : a + b ≤ 9000) : call P C (n + 3) n_times [frD p, frD q] = .ok (frD (p * q)) := by
  refine call_run rfl rfl (ρ := [.sh (frD p), .sh (frD q)]) rfl ?_
  have f := fraction_at (n := n) (t := p.num * q.num) (b := p.den * q.den) (Int.mul_ne_zero (den_ne p) (den_ne q)) (le9000 (dd_lt hp hq) h)
  unfold n_fraction at f
  simp [fd_times, bin_mul (mulNN hp hq h), bin_mul (mulDD hp hq h), f, mul_eq]
/-! sharing -/
/-! what the laws draw -/
def lsI (l : List Int) : D := .lst (l.map .int)
def Dr (m : Nat) (size : Int) (l : List Int) : Prop := l.length = m ∧ ∀ x ∈ l, 0 ≤ x ∧ x < size
theorem st_draws (Φ : Nat → List D → R D) (cell : Int) (m : Nat) (size : Int) (hm : m ≤ 90000) (h1 : 0 < size) (h2 : size < 2 ^ 62) : ∀ x r ρ, ((fun l ρ => ∃ (i : Nat) (found : List Int) (rest st : Int) (kk : Sl), l = (rngL 0 (m + 3)).drop i ∧ i ≤ m + 3 ∧ ρ = [.sh (.int cell), .sh (.int m), .sh (.int size), .own (lsI found), .sh (.int rest), .sh (.int st), kk] ∧ (kk = .un ∨ ∃ d, kk = .sh d) ∧
        found.length = i - 3 ∧ (∀ x ∈ found, 0 ≤ x ∧ x < size) ∧ 0 ≤ st ∧ st < 2305843009213693951) : List D → Rv.Env → Prop) (x :: r) ρ → ∃ ρ1 ρ2, setT (.var 6) x ρ = .ok ρ1 ∧ (exSs Φ C lb_l_draws_0 ρ1 = .nx ρ2 ∨ exSs Φ C lb_l_draws_0 ρ1 = .ct ρ2) ∧ ((fun l ρ => ∃ (i : Nat) (found : List Int) (rest st : Int) (kk : Sl), l = (rngL 0 (m + 3)).drop i ∧ i ≤ m + 3 ∧ ρ = [.sh (.int cell), .sh (.int m), .sh (.int size), .own (lsI found), .sh (.int rest), .sh (.int st), kk] ∧ (kk = .un ∨ ∃ d, kk = .sh d) ∧
        found.length = i - 3 ∧ (∀ x ∈ found, 0 ≤ x ∧ x < size) ∧ 0 ≤ st ∧ st < 2305843009213693951) : List D → Rv.Env → Prop) r ρ2 := by
      rintro x r ρ ⟨i, found, rest, st, kk, h4, h5, rfl, h7, h8, h9, h10, h11⟩
      have hi : i < m + 3 := by
        have := congrArg List.length h4
        simp [rngL] at this
        omega
      have hx : (rngL 0 (m + 3)).drop i = .int (i : Nat) :: (rngL 0 (m + 3)).drop (i + 1) := by
        rw [List.drop_eq_getElem_cons (by simp [rngL]; exact hi)]
        simp [rngL]
      rw [hx] at h4
      cases h4
      have hst : stE [.sh (.int cell), .sh (.int m), .sh (.int size), .own (lsI found), .sh (.int rest), .sh (.int st), kk] 6 (.sh (.int (i : Nat))) = .ok [.sh (.int cell), .sh (.int m), .sh (.int size), .own (lsI found), .sh (.int rest), .sh (.int st), .sh (.int (i : Nat))] := by
        rcases h7 with rfl | ⟨d, rfl⟩ <;> rfl
      have m1 : mulOk st st := .inl (.inl (by omega))
      have m2 : mulOk 48271 st := .inl (.inl (by decide))
      have hM : (2305843009213693951 : Int) ≠ 0 := by decide
      generalize hs : (st * st + 48271 * st + (i : Int) + 1).fmod 2305843009213693951 = s2
      have hs1 : 0 ≤ s2 := by rw [← hs]; exact Int.fmod_nonneg_of_pos _ (by decide)
      have hs2 : s2 < 2305843009213693951 := by rw [← hs]; exact Int.fmod_lt_of_pos _ (by decide)
      have hz : size ≠ 0 := by omega
      have dsz : divOk size := divOk_of hz (le9000 (k := 62) (by omega) (by decide))
      have d4 : divOk 4096 := divOk_of (by decide) (le9000 (k := 62) (by decide) (by decide))
      have hll : found.length < LL := by unfold LL; omega
      refine ⟨_, if 2 < i then (if 0 < rest then [.sh (.int cell), .sh (.int m), .sh (.int size), .own (lsI (found ++ [rest.fmod size])), .sh (.int (rest.fdiv size)), .sh (.int s2), .sh (.int (i : Nat))]
        else [.sh (.int cell), .sh (.int m), .sh (.int size), .own (lsI (found ++ [(s2.fdiv 4096).fmod size])), .sh (.int rest), .sh (.int s2), .sh (.int (i : Nat))])
        else [.sh (.int cell), .sh (.int m), .sh (.int size), .own (lsI found), .sh (.int rest), .sh (.int s2), .sh (.int (i : Nat))], by simp only [setT_var]; exact hst, .inl ?_, ?_⟩
      · simp only [lb_l_draws_0, exSs_cons, exS_asg]
        simp [bin_mul m1, bin_mul m2, bin_mod hM, hs, stE]
        by_cases c1 : 2 < i
        · have c3 : (2 : Int) < i := by omega
          by_cases c2 : 0 < rest
          · simp [c1, c2, c3, bin_mod hz, bin_fdv dsz, lsI, ownL, hll, stE]
          · simp [c1, c2, c3, bin_mod hz, bin_fdv d4, lsI, ownL, hll]
        · have c3 : ¬ (2 : Int) < i := by omega
          simp [c1, c3]
      · by_cases c1 : 2 < i
        · by_cases c2 : 0 < rest
          · rw [if_pos c1, if_pos c2]
            refine ⟨i + 1, _, _, _, _, rfl, by omega, rfl, .inr ⟨_, rfl⟩, by simp; omega, ?_, hs1, hs2⟩
            intro x hx
            rcases List.mem_append.mp hx with hx | hx
            · exact h9 x hx
            · rw [List.mem_singleton.mp hx]
              exact ⟨Int.fmod_nonneg_of_pos _ h1, Int.fmod_lt_of_pos _ h1⟩
          · rw [if_pos c1, if_neg c2]
            refine ⟨i + 1, _, _, _, _, rfl, by omega, rfl, .inr ⟨_, rfl⟩, by simp; omega, ?_, hs1, hs2⟩
            intro x hx
            rcases List.mem_append.mp hx with hx | hx
            · exact h9 x hx
            · rw [List.mem_singleton.mp hx]
              exact ⟨Int.fmod_nonneg_of_pos _ h1, Int.fmod_lt_of_pos _ h1⟩
        · rw [if_neg c1]
          exact ⟨i + 1, _, _, _, _, rfl, by omega, rfl, .inr ⟨_, rfl⟩, by omega, h9, hs1, hs2⟩
theorem lp_draws (cell : Int) (m : Nat) (size : Int) (hm : m ≤ 90000) (h1 : 0 < size) (h2 : size < 2 ^ 62) : ∀ (Φ : Nat → List D → R D) (rest : Int) (st : Int), 0 ≤ st → st < 2305843009213693951 → ∃ (l : List Int) (r s : Sl) (k : Sl), Dr m size l ∧
      exS Φ C lp_l_draws_0 [.sh (.int cell), .sh (.int m), .sh (.int size), .own (.lst []), .sh (.int rest), .sh (.int st), .un] = .nx [.sh (.int cell), .sh (.int m), .sh (.int size), .own (lsI l), r, s, k] := by
    intro Φ rest st hs1 hs2
    unfold lp_l_draws_0
    have hr : rngOk ((m : Int) + 3) := ⟨by omega, by omega⟩
    have e0 : evi Φ C [.sh (.int cell), .sh (.int m), .sh (.int size), .own (.lst []), .sh (.int rest), .sh (.int st), .un] false (.rng (.cons (.bin .add (.var 1) (.int 3)) .nil)) = .ok (rngL 0 (m + 3)) := by
      have et : ((m : Int) + 3).toNat = m + 3 := by omega
      simp [rng1 hr, et]
    rw [exS_for, e0]
    simp only [Out.ofR_ok]
    obtain ⟨ρ', h3, i, found, rest', st', kk, h4, h5, h6, h7, h8, h9, h10, h11⟩ := forL_ind (st := fun x ρ' => setT (.var 6) x ρ') (b := fun ρ' => exSs Φ C lb_l_draws_0 ρ') ((fun l ρ => ∃ (i : Nat) (found : List Int) (rest st : Int) (kk : Sl), l = (rngL 0 (m + 3)).drop i ∧ i ≤ m + 3 ∧ ρ = [.sh (.int cell), .sh (.int m), .sh (.int size), .own (lsI found), .sh (.int rest), .sh (.int st), kk] ∧ (kk = .un ∨ ∃ d, kk = .sh d) ∧
        found.length = i - 3 ∧ (∀ x ∈ found, 0 ≤ x ∧ x < size) ∧ 0 ≤ st ∧ st < 2305843009213693951) : List D → Rv.Env → Prop) (st_draws Φ cell m size hm h1 h2) (l := rngL 0 (m + 3)) ⟨0, [], rest, st, .un, rfl, by omega, rfl, .inl rfl, rfl, by simp, hs1, hs2⟩
    have h3' : forL (fun x ρ' => setT (.var 6) x ρ') (fun ρ' => exSs Φ C lb_l_draws_0 ρ') (rngL 0 (m + 3)) [.sh (.int cell), .sh (.int m), .sh (.int size), .own (.lst []), .sh (.int rest), .sh (.int st), .un] = .nx ρ' := h3
    rw [h3', h6]
    have hi : m + 3 ≤ i := by
      have := congrArg List.length h4
      simp [rngL] at this
      omega
    exact ⟨found, _, _, _, ⟨by omega, h9⟩, rfl⟩
theorem draws_at {n : Nat} (cell : Int) (m : Nat) (size : Int) (hm : m ≤ 90000) (h1 : 0 < size) (h2 : size < 2 ^ 62) : ∃ l, Dr m size l ∧ call P C (n + 1) n_l_draws [.int cell, .int m, .int size] = .ok (lsI l) := by
  have hp : powOk 10 18 := ⟨by decide, by decide, by decide⟩
  have hM : (2305843009213693951 : Int) ≠ 0 := by decide
  generalize hT : (10 : Int) ^ (18 : Int).toNat = T18
  have m3 : mulOk cell (if T18 ≤ cell then 1 else 0) := .inl (.inr (by split <;> decide))
  obtain ⟨l, r, s, k, hd, hl⟩ := lp_draws cell m size hm h1 h2 (call P C n) (cell * (if T18 ≤ cell then 1 else 0)) (cell.fmod 2305843009213693951) (Int.fmod_nonneg_of_pos _ (by decide)) (Int.fmod_lt_of_pos _ (by decide))
  refine ⟨l, hd, ?_⟩
  refine call_run rfl rfl (ρ := [.sh (.int cell), .sh (.int m), .sh (.int size), .un, .un, .un, .un]) rfl ?_
  have e1 : Rv.bin .pow (.int 10) (.int 18) = .ok (.int T18) := by rw [bin_pow hp, hT]
  simp [fd_l_draws, stE, bin_mod hM, e1, bin_mul m3, hl, frzE, lsI]
/-! the law's own fractions -/
theorem lp_l_gcd (Φ : Nat → List D → R D) (a b : Nat) (s : Sl) (hs : s = .un ∨ ∃ d, s = .sh d) : ∃ s', exS Φ C lp_l_gcd_0 [.sh (.int a), .sh (.int b), s] = .nx [.sh (.int (Nat.gcd a b)), .sh (.int 0), s'] := by
  unfold lp_l_gcd_0
  rw [exS_whl]
  refine whl_ind (Q := fun o => ∃ s', o = .nx [.sh (.int (Nat.gcd a b)), .sh (.int 0), s']) (fun m ρ => ∃ (x : Nat) (s : Sl), ρ = [.sh (.int x), .sh (.int m), s] ∧ (s = .un ∨ ∃ d, s = .sh d) ∧ Nat.gcd x m = Nat.gcd a b) ?_ (m := b) ⟨a, s, rfl, hs, rfl⟩
  rintro m ρ ⟨x, s, rfl, hs, hg⟩
  by_cases h : m = 0
  · subst h
    refine .inl ⟨by simp, s, ?_⟩
    rw [Nat.gcd_zero_right] at hg
    rw [hg]; rfl
  · have hst : ∀ d, stE [.sh (.int x), .sh (.int m), s] 2 d = .ok [.sh (.int x), .sh (.int m), d] := fun d => by rcases hs with rfl | ⟨d', rfl⟩ <;> rfl
    refine .inr ⟨by simp; omega, [.sh (.int m), .sh (.int (x % m : Nat)), .sh (.int (x % m : Nat))], x % m, .inl ?_, Nat.mod_lt _ (Nat.pos_of_ne_zero h), m, _, rfl, .inr ⟨_, rfl⟩, ?_⟩
    · simp only [lb_l_gcd_0, exSs_cons, exS_asg, ev_var, ev_bin]
      simp [bin_mod (show (m : Int) ≠ 0 by omega), hst]
      simp [stE]
      rw [Int.fmod_eq_emod_of_nonneg _ (by omega)]
    · rw [← hg, Nat.gcd_comm m, ← Nat.gcd_rec, Nat.gcd_comm]
theorem l_gcd_at {n : Nat} (a b : Int) : call P C (n + 1) n_l_gcd [.int a, .int b] = .ok (.int (Int.gcd a b)) := by
  obtain ⟨s', h⟩ := lp_l_gcd (call P C n) a.natAbs b.natAbs .un (.inl rfl)
  refine call_run rfl rfl (ρ := [.sh (.int a), .sh (.int b), .un]) rfl ?_
  simp [fd_l_gcd, stE, abs_nat, h]
  rfl
theorem l_frac_at {n : Nat} {t b : Int} (hb : 0 < b) (h : b.natAbs < 2 ^ 9000) : call P C (n + 2) n_l_frac [.int t, .int b] = .ok (frD (Rat.divInt t b)) := by
  refine call_run rfl rfl (ρ := [.sh (.int t), .sh (.int b), .un]) rfl ?_
  obtain ⟨p1, p2⟩ := divInt_parts (t := t) (show b ≠ 0 by omega)
  have ok := gdivOk (t := t) (show b ≠ 0 by omega) h
  rw [if_neg (by omega)] at p1 p2 ok
  simp [fd_l_frac, stE, l_gcd_at, hb, bin_fdv ok, LL]
  rw [frD, p1, p2]
/-! comparisons -/
@[simp] theorem ne_int {i j : Int} : cmpV .ne (.int i) (.int j) = .ok (!decide (i = j)) := by
  simp [cmpV, eqOk, dEq, D.py, PyData.eqv]
  rw [Bool.eq_iff_iff]; simp
@[simp] theorem eq_int {i j : Int} : cmpV .eq (.int i) (.int j) = .ok (decide (i = j)) := by
  simp [cmpV, eqOk, dEq, D.py, PyData.eqv]
  rw [Bool.eq_iff_iff]; simp
@[simp] theorem ne_fr {p q : Rat} : cmpV .ne (frD p) (frD q) = .ok (!decide (p = q)) := by
  have e : dEq (frD p) (frD q) = decide (p = q) := by
    rw [Bool.eq_iff_iff]
    simp [dEq, frD, D.py, pys, PyData.eqv, PyData.eqvAll]
    exact ⟨fun z => Rat.ext z.1 (by omega), fun z => by subst z; exact ⟨rfl, rfl⟩⟩
  have e1 : eqOk 12 (frD p) = true := rfl
  have e2 : eqOk 12 (frD q) = true := rfl
  simp only [cmpV, e1, e2, e, Bool.and_self, if_true]
@[simp] theorem eq_fr {p q : Rat} : cmpV .eq (frD p) (frD q) = .ok (decide (p = q)) := by
  have h := ne_fr (p := p) (q := q)
  have e1 : eqOk 12 (frD p) = true := rfl
  have e2 : eqOk 12 (frD q) = true := rfl
  simp only [cmpV, e1, e2, Bool.and_self, if_true, R.ok.injEq] at h ⊢
  rw [Bool.not_eq_eq_eq_not, Bool.not_not] at h
  exact h
/-! places, slices, slots -/
theorem pick {m : Nat} {s : Int} {l : List Int} (h : Dr m s l) (k : Int) (h0 : 0 ≤ k) (hk : k < m) : ∃ x, 0 ≤ x ∧ x < s ∧ idxV (lsI l) (.int k) = .ok (.int x) := by
  obtain ⟨h1, h2⟩ := h
  have hk' : k.toNat < l.length := by omega
  refine ⟨l[k.toNat], (h2 _ (List.getElem_mem hk')).1, (h2 _ (List.getElem_mem hk')).2, ?_⟩
  have e : k = ((k.toNat : Nat) : Int) := by omega
  have q : atI (l.map D.int) ((k.toNat : Nat) : Int) = some (.int l[k.toNat]) := atI_nat (by rw [List.getElem?_map, List.getElem?_eq_getElem hk']; rfl)
  rw [← e] at q
  simp [idxV, lsI, ixD, q]
theorem cut_from {l : List D} {k : Int} (h0 : 0 ≤ k) : Rv.cutD l (some k) none = l.drop k.toNat := by
  have e : k = ((k.toNat : Nat) : Int) := by omega
  unfold Rv.cutD
  rw [e, HT.sIx_nat, HT.sIx_none, Int.toNat_natCast]
  by_cases h : k.toNat ≤ l.length
  · rw [Nat.min_eq_left h, List.take_of_length_le (by rw [List.length_drop]; exact Nat.le_refl _)]
  · rw [Nat.min_eq_right (by omega), Nat.sub_self, List.take_zero, List.drop_eq_nil_of_le (by omega)]
theorem dr_drop {m k : Nat} {s : Int} {l : List Int} (h : Dr m s l) : Dr (m - k) s (l.drop k) := ⟨by rw [List.length_drop, h.1], fun x hx => h.2 x (List.mem_of_mem_drop hx)⟩
theorem slc_lsI {l : List Int} {k : Int} (h0 : 0 ≤ k) : slcV (lsI l) (some k) none = .ok (lsI (l.drop k.toNat)) := by
  unfold lsI
  rw [slc_l, cut_from h0, List.map_drop]
theorem mulOk_r {i j : Int} (h : j.natAbs < 2 ^ 63) : mulOk i j := .inl (.inr h)
theorem mulOk_l {i j : Int} (h : i.natAbs < 2 ^ 63) : mulOk i j := .inl (.inl h)
theorem divOk_s {j : Int} (h0 : j ≠ 0) (h : j.natAbs < 2 ^ 62) : divOk j := divOk_of h0 (le9000 h (by decide))
theorem fr_int (t : Int) : D.tup [.int t, .int 1] = frD (Rat.ofInt t) := rfl
theorem sz_ofInt {t : Int} {k : Nat} (h : t.natAbs < 2 ^ k) (hk : 0 < k) : Sz k (Rat.ofInt t) := ⟨h, Nat.one_lt_two_pow (by omega)⟩
theorem fr_zero : D.tup [.int 0, .int 1] = frD 0 := rfl
theorem fr_one : D.tup [.int 1, .int 1] = frD 1 := rfl
theorem fr_neg1 : D.tup [.int (-1), .int 1] = frD (-1) := rfl
theorem stE_set {ρ : Rv.Env} {i : Nat} {s : Sl} (h : i < ρ.length) (h2 : ρ[i]? ≠ some .lk) : stE ρ i s = .ok (ρ.set i s) := by
  unfold stE
  rw [List.getElem?_eq_getElem h] at h2 ⊢
  cases q : ρ[i] with
  | lk => rw [q] at h2; exact absurd rfl h2
  | _ => rfl
theorem nef {p q : Rat} (h : p = q) : cmpV .ne (frD p) (frD q) = .ok false := by rw [ne_fr, decide_eq_true h]; rfl
theorem nl_sh {d : D} : Sl.sh d ≠ .lk := by intro h; cases h
theorem nlc {s : Sl} {r : Rv.Env} (h : s ≠ .lk) (t : Sl.lk ∉ r) : Sl.lk ∉ s :: r := fun z => by
  rcases List.mem_cons.mp z with z | z
  · exact h z.symm
  · exact t z
theorem nln : Sl.lk ∉ ([] : Rv.Env) := by simp
theorem ix_lsI {l : List Int} {i : Int} (h0 : 0 ≤ i) (h : i < l.length) : idxV (lsI l) (.int i) = .ok (.int (l.getD i.toNat 0)) := by
  have h1 : i.toNat < l.length := by omega
  have e : i = ((i.toNat : Nat) : Int) := by omega
  have q : atI (l.map D.int) ((i.toNat : Nat) : Int) = some (.int l[i.toNat]) := atI_nat (by rw [List.getElem?_map, List.getElem?_eq_getElem h1]; rfl)
  rw [← e] at q
  simp [idxV, lsI, ixD, q, List.getD_eq_getElem?_getD, h1]
theorem dr_at {m : Nat} {s : Int} {l : List Int} (h : Dr m s l) {k : Nat} (hk : k < m) : 0 ≤ l.getD k 0 ∧ l.getD k 0 < s := by
  have h1 : k < l.length := by rw [h.1]; exact hk
  have := h.2 _ (List.getElem_mem h1)
  simpa [List.getD_eq_getElem?_getD, h1] using this
/-! a drawn number -/
theorem l_a_number_at {n m : Nat} {l : List Int} (h : Dr m 1000 l) (hm : 6 ≤ m) : ∃ q, Sz 42 q ∧ call P C (n + 3) n_l_a_number [lsI l] = .ok (frD q) := by
  obtain ⟨x0, a0, b0, e0⟩ := pick h 0 (by decide) (by omega)
  obtain ⟨x1, a1, b1, e1⟩ := pick h 1 (by decide) (by omega)
  obtain ⟨x2, a2, b2, e2⟩ := pick h 2 (by decide) (by omega)
  obtain ⟨x3, a3, b3, e3⟩ := pick h 3 (by decide) (by omega)
  obtain ⟨x4, a4, b4, e4⟩ := pick h 4 (by decide) (by omega)
  obtain ⟨x5, a5, b5, e5⟩ := pick h 5 (by decide) (by omega)
  have run : ∀ q, Sz 42 q → fin (exSs (call P C (n + 2)) C fd_l_a_number.body [.sh (lsI l), .un, .un, .un]) = .ok (frD q) → ∃ q, Sz 42 q ∧ call P C (n + 3) n_l_a_number [lsI l] = .ok (frD q) :=
    fun q hq e => ⟨q, hq, call_run rfl rfl rfl e⟩
  by_cases c1 : x0 % 8 < 3
  · refine run (Rat.ofInt (x1 % 19 - 9)) (sz_ofInt (by omega) (by decide)) ?_
    simp [fd_l_a_number, e0, e1, bin_mod, Int.fmod_eq_emod_of_nonneg, stE_set, c1, LL, fr_int]
  by_cases c2 : x0 % 8 < 5
  · have hb : (1 + x2 % 12).natAbs < 2 ^ 40 := by omega
    refine run (Rat.divInt (x1 % 19 - 9) (1 + x2 % 12)) (divInt_sz (by omega) (by omega) (by omega)) ?_
    simp [fd_l_a_number, e0, e1, e2, bin_mod, Int.fmod_eq_emod_of_nonneg, stE_set, c1, c2, l_frac_at (n := n) (t := x1 % 19 - 9) (b := 1 + x2 % 12) (by omega) (le9000 hb (by decide))]
  by_cases c3 : x0 % 8 = 5
  · refine run 0 ⟨by decide, by decide⟩ ?_
    simp [fd_l_a_number, e0, e1, e2, bin_mod, Int.fmod_eq_emod_of_nonneg, stE_set, c1, c2, c3, LL, fr_zero]
  have p1 : powOk 10 11 := ⟨by decide, by decide, by decide⟩
  have hT : (10 : Int) ^ (11 : Int).toNat = 100000000000 := by decide
  have key : ∀ b : Int, 0 < b → b < 2 ^ 40 → idxV (.lst [.int 1, .int (1 + x5 * 1000 + x2)]) (.int (x0 / 8 % 2)) = .ok (.int b) → ∃ q, Sz 42 q ∧ call P C (n + 3) n_l_a_number [lsI l] = .ok (frD q) := by
    intro b hb hb2 e
    have hb3 : b.natAbs < 2 ^ 40 := by omega
    refine run (Rat.divInt (((x1 * 1000 + x2) * 1000 + x3) * 1000 + x4 - 400000000000) b) (divInt_sz (by omega) (by omega) (by omega)) ?_
    simp [fd_l_a_number, e0, e1, e2, e3, e4, e5, bin_mod, bin_fdv, divOk_s, bin_mul, mulOk_r, bin_pow p1, hT, Int.fmod_eq_emod_of_nonneg, Int.fdiv_eq_ediv_of_nonneg, stE_set, c1, c2, c3, LL, e,
      l_frac_at (n := n) (t := ((x1 * 1000 + x2) * 1000 + x3) * 1000 + x4 - 400000000000) hb (le9000 hb3 (by decide))]
  rcases Int.emod_two_eq (x0 / 8) with c4 | c4
  · exact key 1 (by decide) (by decide) (by rw [c4]; rfl)
  · exact key (1 + x5 * 1000 + x2) (by omega) (by omega) (by rw [c4]; rfl)
/-! the script's cells -/
theorem l_cell_at {n : Nat} (ns : List Int) : ∃ c : Int, call P C (n + 1) n_l_cell_at [lsI ns, .int 0] = .ok (.int c) := by
  have run : ∀ c : Int, fin (exSs (call P C n) C fd_l_cell_at.body [.sh (lsI ns), .sh (.int 0)]) = .ok (.int c) → ∃ c : Int, call P C (n + 1) n_l_cell_at [lsI ns, .int 0] = .ok (.int c) := fun c e => ⟨c, call_run rfl rfl rfl e⟩
  cases ns with
  | nil => exact run 0 (by simp [fd_l_cell_at, lsI])
  | cons x r =>
    refine run x ?_
    have : idxV (.lst (.int x :: r.map D.int)) (.int 0) = .ok (.int x) := by
      have q : atI (D.int x :: r.map D.int) ((0 : Nat) : Int) = some (.int x) := atI_nat rfl
      simp [idxV, ixD, show atI (D.int x :: r.map D.int) (0 : Int) = some (.int x) from q]
    have h2 : (0 : Int) < (r.length : Int) + 1 := by omega
    simp [fd_l_cell_at, lsI, this, h2]
theorem cut_1 (ns : List Int) (k : Nat) (hk : 1 ≤ k) : Rv.cutD (ns.map D.int) (some 1) (some (k : Int)) = ((ns.drop 1).take (k - 1)).map D.int := by
  unfold Rv.cutD
  rw [show (some (1 : Int)) = some ((1 : Nat) : Int) from rfl, HT.sIx_nat, HT.sIx_nat, List.length_map, List.map_take, List.map_drop]
  by_cases h : 1 ≤ ns.length
  · rw [Nat.min_eq_left h]
    by_cases h2 : k ≤ ns.length
    · rw [Nat.min_eq_left h2]
    · rw [Nat.min_eq_right (by omega), List.take_of_length_le (by simp), List.take_of_length_le (by simp; omega)]
  · have : ns = [] := List.length_eq_zero_iff.mp (by omega)
    subst this
    simp
def Ok0 (s : D) (L : Nat) (ρ : Rv.Env) : Prop := ρ.length = L ∧ ρ[0]? = some (.sh s) ∧ ∀ i : Nat, ρ[i]? ≠ some Sl.lk
theorem law_cells {n : Nat} {ns : List Int} {k : Nat} (hk : 1 ≤ k) (hk2 : k ≤ 63) {L : Nat} (hL : 1 < L) {body : Ss} {ρ : Rv.Env} (h0 : Ok0 (lsI ns) L ρ)
    (turn : ∀ (cell : Int) (ρ : Rv.Env), Ok0 (lsI ns) L ρ → ρ[1]? = some (.sh (.int cell)) → ∃ ρ', Ok0 (lsI ns) L ρ' ∧ exSs (call P C (n + 1)) C body ρ = .nx ρ') :
    ∃ ρ', exS (call P C (n + 1)) C (.for_ (.var 1) (.it (.bin .add (.lst (.cons (.call n_l_cell_at (.cons (.var 0) (.cons (.int 0) .nil))) .nil)) (.slc (.var 0) (.yes (.int 1)) (.yes (.int (k : Int)))))) body) ρ = .nx ρ' := by
  obtain ⟨c, hc⟩ := l_cell_at (n := n) ns
  have hlen : ((ns.drop 1).take (k - 1)).length ≤ 62 := by simp; omega
  have hz : ρ[0]? = some (.sh (lsI ns)) := h0.2.1
  have e : evi (call P C (n + 1)) C ρ false (.it (.bin .add (.lst (.cons (.call n_l_cell_at (.cons (.var 0) (.cons (.int 0) .nil))) .nil)) (.slc (.var 0) (.yes (.int 1)) (.yes (.int (k : Int)))))) = .ok (.int c :: ((ns.drop 1).take (k - 1)).map D.int) := by
    simp [hc, LL, hz]
    simp only [lsI, slc_l, cut_1 ns k hk, R.bind_ok, Rv.bin, List.length_map, List.length_cons, List.length_nil]
    rw [if_pos (by unfold LL; omega)]
    simp
  rw [exS_for, e]
  simp only [Out.ofR_ok]
  obtain ⟨ρ', h1, h2⟩ := forL_ind (st := fun x ρ' => setT (.var 1) x ρ') (b := fun ρ' => exSs (call P C (n + 1)) C body ρ')
    (fun l ρ => (∀ x ∈ l, ∃ i : Int, x = .int i) ∧ Ok0 (lsI ns) L ρ)
    (fun x r ρ ⟨hx, ho⟩ => by
      obtain ⟨i, rfl⟩ := hx x List.mem_cons_self
      have hs : stE ρ 1 (.sh (.int i)) = .ok (ρ.set 1 (.sh (.int i))) := stE_set (by rw [ho.1]; exact hL) (ho.2.2 1)
      have ho1 : Ok0 (lsI ns) L (ρ.set 1 (.sh (.int i))) := by
        refine ⟨by rw [List.length_set]; exact ho.1, by rw [List.getElem?_set_ne (by decide)]; exact ho.2.1, fun j z => ?_⟩
        rcases get_set z with ⟨_, z⟩ | ⟨_, z⟩
        · cases z
        · exact ho.2.2 j z
      obtain ⟨ρ2, g1, g2⟩ := turn i _ ho1 (List.getElem?_set_self (by rw [ho.1]; exact hL))
      exact ⟨_, ρ2, by rw [setT_var]; exact hs, .inl g2, fun x hx' => hx x (List.mem_cons_of_mem _ hx'), g1⟩)
    (l := .int c :: ((ns.drop 1).take (k - 1)).map D.int) (ρ := ρ)
    ⟨fun x hx => by
      rcases List.mem_cons.mp hx with rfl | hx
      · exact ⟨c, rfl⟩
      · obtain ⟨i, _, rfl⟩ := List.mem_map.mp hx
        exact ⟨i, rfl⟩, h0⟩
  exact ⟨ρ', h1⟩
theorem ok0_start {s : D} {k : Nat} : Ok0 s (k + 1) (.sh s :: List.replicate k .un) := by
  refine ⟨by simp, rfl, fun i => ?_⟩
  cases i with
  | zero => intro z; cases z
  | succ i =>
    rw [List.getElem?_cons_succ, List.getElem?_replicate]
    split <;> intro z <;> cases z
theorem Ok0.nl {s : D} {L : Nat} {ρ : Rv.Env} (h : Ok0 s L ρ) {i : Nat} {x : Sl} (e : ρ[i]? = some x) : x ≠ .lk := fun z => h.2.2 i (by rw [e, z])
theorem ok0_of {s : D} {L : Nat} {ρ : Rv.Env} (h : ρ.length = L) (h0 : ρ[0]? = some (.sh s)) (hm : Sl.lk ∉ ρ) : Ok0 s L ρ := ⟨h, h0, fun _ z => hm (List.mem_of_getElem? z)⟩
/-! powers -/
theorem pw_ok {b : Int} {c i : Nat} (h : b.natAbs ≤ 2 ^ c) : (b ^ i).natAbs < 2 ^ (c * i + 1) := by
  rw [Int.natAbs_pow, Nat.pow_succ, Nat.pow_mul]
  have := Nat.pow_le_pow_left h i
  have p : 0 < (2 ^ c) ^ i := Nat.pow_pos (Nat.two_pow_pos c)
  omega
theorem pw_mul {b : Int} {c i : Nat} (h : b.natAbs ≤ 2 ^ c) (hk : c * i + c + 1 ≤ 30000000) : mulOk (b ^ i) b :=
  mulOk_of (pw_ok h) (show b.natAbs < 2 ^ (c + 1) by rw [Nat.pow_succ]; have := Nat.two_pow_pos c; omega) (by omega) (by omega)
/-! the law's own sums and products -/
theorem l_add_at {n : Nat} {p q : Rat} {a b : Nat} (hp : Sz a p) (hq : Sz b q) (h : a + b ≤ 9000) : call P C (n + 3) n_l_add [frD p, frD q] = .ok (frD (p + q)) := by
  refine call_run rfl rfl (ρ := [.sh (frD p), .sh (frD q)]) rfl ?_
  have hb : 0 < (p.den : Int) * q.den := Int.mul_pos (by have := p.den_nz; omega) (by have := q.den_nz; omega)
  have f := l_frac_at (n := n) (t := p.num * q.den + q.num * p.den) (b := p.den * q.den) hb (le9000 (dd_lt hp hq) h)
  simp [fd_l_add, bin_mul (mulND hp hq h), bin_mul (mulND hq hp (by omega)), bin_mul (mulDD hp hq h), f, add_eq]
theorem l_mul_at {n : Nat} {p q : Rat} {a b : Nat} (hp : Sz a p) (hq : Sz b q) (h : a + b ≤ 9000) : call P C (n + 3) n_l_mul [frD p, frD q] = .ok (frD (p * q)) := by
  refine call_run rfl rfl (ρ := [.sh (frD p), .sh (frD q)]) rfl ?_
  have hb : 0 < (p.den : Int) * q.den := Int.mul_pos (by have := p.den_nz; omega) (by have := q.den_nz; omega)
  have f := l_frac_at (n := n) (t := p.num * q.num) (b := p.den * q.den) hb (le9000 (dd_lt hp hq) h)
  simp [fd_l_mul, bin_mul (mulNN hp hq h), bin_mul (mulDD hp hq h), f, mul_eq]
/-! plain data, of bounded width -/
mutual
def wd (k : Nat) : D → Bool
  | .lst l => decide (l.length ≤ k) && wds k l
  | .tup l => decide (l.length ≤ k) && wds k l
  | .dK _ => false
  | .dT _ => false
  | .exc _ => false
  | _ => true
def wds (k : Nat) : List D → Bool
  | [] => true
  | d :: l => wd k d && wds k l
end
theorem wds_iff {k : Nat} : ∀ {l : List D}, wds k l = true ↔ ∀ x ∈ l, wd k x = true
  | [] => by simp [wds]
  | d :: l => by simp only [wds, Bool.and_eq_true, wds_iff (l := l), List.mem_cons, forall_eq_or_imp]
mutual
theorem wd_mono {j k : Nat} (h : j ≤ k) : ∀ {d : D}, wd j d = true → wd k d = true
  | .lst l, q => by
    simp only [wd, Bool.and_eq_true, decide_eq_true_eq] at q ⊢
    exact ⟨Nat.le_trans q.1 h, wds_mono h q.2⟩
  | .tup l, q => by
    simp only [wd, Bool.and_eq_true, decide_eq_true_eq] at q ⊢
    exact ⟨Nat.le_trans q.1 h, wds_mono h q.2⟩
  | .dK _, q => by simp [wd] at q
  | .dT _, q => by simp [wd] at q
  | .exc _, q => by simp [wd] at q
  | .non, _ => rfl
  | .bl _, _ => rfl
  | .int _, _ => rfl
  | .str _, _ => rfl
theorem wds_mono {j k : Nat} (h : j ≤ k) : ∀ {l : List D}, wds j l = true → wds k l = true
  | [], _ => rfl
  | d :: l, q => by
    simp only [wds, Bool.and_eq_true] at q ⊢
    exact ⟨wd_mono h q.1, wds_mono h q.2⟩
end
theorem wd_lst {k : Nat} {l : List D} (h : l.length ≤ k) (q : ∀ x ∈ l, wd k x = true) : wd k (.lst l) = true := by
  simp only [wd, Bool.and_eq_true, decide_eq_true_eq]
  exact ⟨h, wds_iff.mpr q⟩
theorem wd_tup {k : Nat} {l : List D} (h : l.length ≤ k) (q : ∀ x ∈ l, wd k x = true) : wd k (.tup l) = true := by
  simp only [wd, Bool.and_eq_true, decide_eq_true_eq]
  exact ⟨h, wds_iff.mpr q⟩
theorem cutD_mem {l : List D} {a b : Option Int} {x : D} (h : x ∈ Rv.cutD l a b) : x ∈ l := List.mem_of_mem_drop (List.mem_of_mem_take h)
theorem cutD_len {l : List D} {a b : Option Int} : (Rv.cutD l a b).length ≤ l.length := by
  unfold Rv.cutD
  rw [List.length_take, List.length_drop]; omega
@[simp] theorem eq_bl {a b : Bool} : cmpV .eq (.bl a) (.bl b) = .ok (a == b) := by simp [cmpV, eqOk, dEq, D.py, PyData.eqv]
@[simp] theorem ne_bl {a b : Bool} : cmpV .ne (.bl a) (.bl b) = .ok (!(a == b)) := by simp [cmpV, eqOk, dEq, D.py, PyData.eqv]
/-! comprehensions -/
theorem compL_ex {st : D → R Rv.Env} {c : Rv.Env → R Bool} {f : Rv.Env → R D} {Q : D → D → Prop} : ∀ {l : List D}, (∀ x ∈ l, ∃ ρ y, st x = .ok ρ ∧ c ρ = .ok true ∧ f ρ = .ok y ∧ Q x y) → ∃ ys, compL st c f l = .ok ys ∧ ys.length = l.length ∧ ∀ y ∈ ys, ∃ x ∈ l, Q x y
  | [], _ => ⟨[], rfl, rfl, by simp⟩
  | x :: r, h => by
    obtain ⟨ρ, y, h1, h2, h3, h4⟩ := h x List.mem_cons_self
    obtain ⟨ys, g1, g2, g3⟩ := compL_ex (l := r) fun z hz => h z (List.mem_cons_of_mem _ hz)
    refine ⟨y :: ys, by simp [compL, h1, h2, h3, g1], by simp [g2], fun z hz => ?_⟩
    rcases List.mem_cons.mp hz with rfl | hz
    · exact ⟨x, List.mem_cons_self, h4⟩
    · obtain ⟨w, hw, hq⟩ := g3 z hz
      exact ⟨w, List.mem_cons_of_mem _ hw, hq⟩
theorem frs_of {p : Rat → Prop} : ∀ {ys : List D}, (∀ y ∈ ys, ∃ q, y = frD q ∧ p q) → ∃ qs : List Rat, ys = qs.map frD ∧ ∀ q ∈ qs, p q
  | [], _ => ⟨[], rfl, by simp⟩
  | y :: ys, h => by
    obtain ⟨q, rfl, hq⟩ := h y List.mem_cons_self
    obtain ⟨qs, rfl, hqs⟩ := frs_of (ys := ys) fun z hz => h z (List.mem_cons_of_mem _ hz)
    exact ⟨q :: qs, rfl, fun z hz => by
      rcases List.mem_cons.mp hz with rfl | hz
      · exact hq
      · exact hqs z hz⟩
theorem compL_list' {st : D → R Rv.Env} {c : Rv.Env → R Bool} {f : Rv.Env → R D} {l : List D} (g : D → D) (h : ∀ x ∈ l, ∃ ρ, st x = .ok ρ ∧ c ρ = .ok true ∧ f ρ = .ok (g x)) : compL st c f l = .ok (l.map g) := by
  rw [compL_map (fun x => some (g x)) fun x hx => by
    obtain ⟨ρ, h1, h2, h3⟩ := h x hx
    exact ⟨ρ, h1, .inr ⟨h2, _, h3, rfl⟩⟩, ← List.filterMap_eq_map]
  rfl
theorem blsOf_map {p : D → Bool} : ∀ l : List D, blsOf (l.map fun x => .bl (p x)) = some (l.map p)
  | [] => rfl
  | x :: r => by simp [blsOf, blsOf_map r]
theorem all_map {p : D → Bool} (l : List D) : bfn .all [.lst (l.map fun x => .bl (p x))] = .ok (.bl (l.all p)) := by
  simp only [bfn, blsOf_map]
  simp [List.all_map, Function.comp_def]
def lof (l : List Rat) : D := .tup (l.map frD)
theorem wd_lof {k : Nat} {l : List Rat} (h : l.length ≤ k) (hk : 2 ≤ k) : wd k (lof l) = true := wd_tup (by simpa using h) fun x hx => by
  obtain ⟨q, _, rfl⟩ := List.mem_map.mp hx
  exact wd_tup (by exact hk) (by simp [wd])
/-! rows as sums: products cut off -/
def sm (n : Nat) (f : Nat → Rat) : Rat := match n with
  | 0 => 0
  | n + 1 => sm n f + f n
theorem sm_succ (n : Nat) (f : Nat → Rat) : sm (n + 1) f = sm n f + f n := rfl
theorem sm_congr {n : Nat} {f g : Nat → Rat} (h : ∀ i, i < n → f i = g i) : sm n f = sm n g := by
  induction n with
  | zero => rfl
  | succ n ih => rw [sm_succ, sm_succ, ih fun i hi => h i (by omega), h n (by omega)]
theorem sm_add (n : Nat) (f g : Nat → Rat) : sm n (fun i => f i + g i) = sm n f + sm n g := by
  induction n with
  | zero => exact (Rat.add_zero 0).symm
  | succ n ih => rw [sm_succ, sm_succ, sm_succ, ih]; grind
theorem sm_mul (n : Nat) (c : Rat) (f : Nat → Rat) : sm n (fun i => c * f i) = c * sm n f := by
  induction n with
  | zero => exact (Rat.mul_zero c).symm
  | succ n ih => rw [sm_succ, sm_succ, ih]; grind
theorem sm_head (n : Nat) (f : Nat → Rat) : sm (n + 1) f = f 0 + sm n fun i => f (i + 1) := by
  induction n with
  | zero => rw [sm_succ]; show (0 : Rat) + f 0 = f 0 + 0; grind
  | succ n ih => rw [sm_succ, ih, sm_succ]; grind
theorem sm_rev (n : Nat) (f : Nat → Rat) : sm n f = sm n fun i => f (n - 1 - i) := by
  induction n with
  | zero => rfl
  | succ n ih =>
    rw [sm_head n fun i => f (n + 1 - 1 - i), sm_succ, ih]
    have : sm n (fun i => f (n + 1 - 1 - (i + 1))) = sm n fun i => f (n - 1 - i) := sm_congr fun i hi => by rw [show n + 1 - 1 - (i + 1) = n - 1 - i by omega]
    rw [this, show n + 1 - 1 - 0 = n by omega]; grind
def cv (p q : Nat → Rat) (n : Nat) : Rat := sm (n + 1) fun i => p i * q (n - i)
theorem cv_comm (p q : Nat → Rat) (n : Nat) : cv p q n = cv q p n := by
  unfold cv
  rw [sm_rev]
  refine sm_congr fun i hi => ?_
  rw [show n + 1 - 1 - i = n - i by omega, show n - (n - i) = i by omega, Rat.mul_comm]
theorem cv_add (p q r : Nat → Rat) (n : Nat) : cv (fun i => p i + q i) r n = cv p r n + cv q r n := by
  unfold cv
  rw [← sm_add]
  exact sm_congr fun i _ => by grind
theorem sm_tri (n : Nat) (f : Nat → Nat → Rat) : sm n (fun i => sm (i + 1) fun j => f j (i - j)) = sm n fun j => sm (n - j) fun k => f j k := by
  induction n with
  | zero => rfl
  | succ n ih =>
    rw [sm_succ, ih]
    have e : sm (n + 1) (fun j => sm (n + 1 - j) fun k => f j k) = sm n (fun j => (sm (n - j) fun k => f j k) + f j (n - j)) + f n 0 := by
      rw [sm_succ, show n + 1 - n = 0 + 1 by omega, sm_succ]
      have h1 : sm n (fun j => sm (n + 1 - j) fun k => f j k) = sm n fun j => (sm (n - j) fun k => f j k) + f j (n - j) := sm_congr fun j hj => by rw [show n + 1 - j = (n - j) + 1 by omega, sm_succ]
      rw [h1]
      show _ + ((0 : Rat) + f n 0) = _
      grind
    rw [e, sm_add, sm_succ, show n - n = 0 by omega]
    grind
theorem cv_assoc (p q r : Nat → Rat) (n : Nat) : cv (cv p q) r n = cv p (cv q r) n := by
  unfold cv
  have h1 : sm (n + 1) (fun i => (sm (i + 1) fun j => p j * q (i - j)) * r (n - i)) = sm (n + 1) fun i => sm (i + 1) fun j => p j * (q (i - j) * r (n - j - (i - j))) := sm_congr fun i hi => by
    rw [Rat.mul_comm, ← sm_mul]
    exact sm_congr fun j hj => by rw [show n - j - (i - j) = n - i by omega]; grind
  rw [h1, sm_tri (n + 1) fun j k => p j * (q k * r (n - j - k))]
  refine sm_congr fun j hj => ?_
  rw [show n + 1 - j = n - j + 1 by omega, sm_mul]
theorem cv_last {p q : Nat → Rat} (n : Nat) : cv p q n = p n * q 0 + sm n fun i => p i * q (n - i) := by
  unfold cv
  rw [sm_succ, Nat.sub_self]; grind
def one' (n : Nat) : Rat := if n = 0 then 1 else 0
theorem cv_one (p : Nat → Rat) (n : Nat) : cv one' p n = p n := by
  unfold cv
  rw [sm_head]
  have : sm n (fun i => one' (i + 1) * p (n - (i + 1))) = sm n fun _ => 0 := sm_congr fun i _ => by simp [one', Rat.zero_mul]
  rw [this]
  have z : ∀ k, sm k (fun _ => (0 : Rat)) = 0 := fun k => by
    induction k with
    | zero => rfl
    | succ k ih => rw [sm_succ, ih, Rat.add_zero]
  rw [z]
  show (1 : Rat) * p n + 0 = p n
  grind
theorem cv_inj {p p' q : Nat → Rat} (h0 : q 0 ≠ 0) {m : Nat} (h : ∀ n, n < m → cv p q n = cv p' q n) : ∀ n, n < m → p n = p' n := by
  intro n
  induction n using Nat.strongRecOn with
  | ind n ih =>
    intro hn
    have e := h n hn
    rw [cv_last, cv_last] at e
    have e2 : sm n (fun i => p i * q (n - i)) = sm n fun i => p' i * q (n - i) := sm_congr fun i hi => by rw [ih i hi (by omega)]
    rw [e2] at e
    have e3 : p n * q 0 = p' n * q 0 := by grind
    have := congrArg (· * (q 0)⁻¹) e3
    simp only [Rat.mul_assoc, Rat.mul_inv_cancel _ h0, Rat.mul_one] at this
    exact this
/-! rows of the program -/
def zipAdd (a b : List Rat) : List Rat := (a.zip b).map fun p => p.1 + p.2
/-! rows over one bottom -/
def lcD (b : Nat) (l : List Rat) : Nat := l.foldl (fun b q => b * q.den / Nat.gcd b q.den) b
theorem lcD_cons (b : Nat) (q : Rat) (l : List Rat) : lcD b (q :: l) = lcD (b * q.den / Nat.gcd b q.den) l := rfl
theorem lc_pos {b : Nat} {q : Rat} (hb : 0 < b) : 0 < b * q.den / Nat.gcd b q.den := Nat.div_pos (Nat.le_of_dvd (Nat.mul_pos hb (Nat.pos_of_ne_zero q.den_nz)) (Nat.dvd_trans (Nat.gcd_dvd_left b q.den) (Nat.dvd_mul_right _ _))) (Nat.gcd_pos_of_pos_left _ hb)
theorem lcD_pos {l : List Rat} : ∀ {b : Nat}, 0 < b → 0 < lcD b l := by
  induction l with
  | nil => exact fun h => h
  | cons q l ih => exact fun h => by rw [lcD_cons]; exact ih (lc_pos h)
theorem lc_dvd {b : Nat} {q : Rat} : b ∣ b * q.den / Nat.gcd b q.den ∧ q.den ∣ b * q.den / Nat.gcd b q.den := by
  have : b * q.den / Nat.gcd b q.den = Nat.lcm b q.den := rfl
  rw [this]
  exact ⟨Nat.dvd_lcm_left _ _, Nat.dvd_lcm_right _ _⟩
theorem lcD_dvd {l : List Rat} : ∀ {b : Nat}, b ∣ lcD b l ∧ ∀ q ∈ l, q.den ∣ lcD b l := by
  induction l with
  | nil => exact fun {b} => ⟨Nat.dvd_refl b, by simp⟩
  | cons q l ih =>
    intro b
    rw [lcD_cons]
    obtain ⟨h1, h2⟩ := ih (b := b * q.den / Nat.gcd b q.den)
    refine ⟨Nat.dvd_trans lc_dvd.1 h1, fun x hx => ?_⟩
    rcases List.mem_cons.mp hx with rfl | hx
    · exact Nat.dvd_trans lc_dvd.2 h1
    · exact h2 x hx
theorem lcD_lt {k : Nat} {l : List Rat} (h : ∀ q ∈ l, q.den ≤ 2 ^ k) : ∀ {b j : Nat}, b ≤ 2 ^ j → lcD b l ≤ 2 ^ (j + k * l.length) := by
  induction l with
  | nil => exact fun hb => by simpa [lcD] using hb
  | cons q l ih =>
    intro b j hb
    rw [lcD_cons]
    have h1 : b * q.den / Nat.gcd b q.den ≤ 2 ^ (j + k) := by
      refine Nat.le_trans (Nat.div_le_self _ _) ?_
      rw [Nat.pow_add]
      exact Nat.mul_le_mul hb (h q List.mem_cons_self)
    refine Nat.le_trans (ih (fun x hx => h x (List.mem_cons_of_mem _ hx)) h1) ?_
    rw [List.length_cons, Nat.mul_add, Nat.mul_one]
    exact Nat.pow_le_pow_right (by decide) (by omega)
/-! slots that hold something or nothing; comprehensions and loops over encoded lists -/
def us (o : Option D) : Sl := match o with | none => .un | some d => .sh d
def nlB (s : Sl) : Bool := match s with | .lk => false | _ => true
@[simp] theorem nlB_us (o : Option D) : nlB (us o) = true := by cases o <;> rfl
@[simp] theorem nlB_sh (d : D) : nlB (.sh d) = true := rfl
@[simp] theorem nlB_own (d : D) : nlB (.own d) = true := rfl
@[simp] theorem nlB_un : nlB .un = true := rfl
@[simp] theorem us_some (d : D) : us (some d) = .sh d := rfl
@[simp] theorem us_none : us none = .un := rfl
theorem us_un : Sl.un = us none := rfl
theorem stE_nl {ρ : Rv.Env} {i : Nat} {s : Sl} (h : (ρ[i]?).map nlB = some true) : stE ρ i s = .ok (ρ.set i s) := by
  unfold stE
  cases e : ρ[i]? with
  | none => rw [e] at h; cases h
  | some x => rw [e] at h; cases x <;> first | rfl | cases h
theorem comp_map {α : Type} {Φ : Nat → List D → R D} {ρ : Rv.Env} {b : Bool} {e : Ex} {t : Tg} {s : Src} {ws : List Nat} {xs : List α} (enc : α → D) (g : α → D) (hs : evi Φ C ρ true s = .ok (xs.map enc)) (hl : xs.length ≤ LL)
    (h : ∀ x ∈ xs, ∃ ρ', setT t (enc x) (wipeE ρ ws) = .ok ρ' ∧ ev Φ C ρ' false e = .ok (g x)) : ev Φ C ρ b (.comp e t s .no ws) = .ok (.lst (xs.map g)) := by
  rw [ev_comp, hs]
  simp only [R.bind_ok, List.length_map, if_pos hl]
  have key : compL (fun x => setT t x (wipeE ρ ws)) (fun ρ' => (evc Φ C ρ' .no).nox) (fun ρ' => (ev Φ C ρ' false e).nox) (xs.map enc) = .ok (xs.map g) := by
    clear hs hl
    induction xs with
    | nil => rfl
    | cons x r ih =>
      obtain ⟨ρ', h1, h2⟩ := h x List.mem_cons_self
      have ih := ih fun y hy => h y (List.mem_cons_of_mem _ hy)
      simp only [evc_no, R.nox_ok] at ih ⊢
      simp [compL, h1, h2, ih]
  rw [key]; rfl
theorem comp_fil {α : Type} {Φ : Nat → List D → R D} {ρ : Rv.Env} {b : Bool} {e c : Ex} {t : Tg} {s : Src} {ws : List Nat} {xs : List α} (enc : α → D) (p : α → Bool) (g : α → D) (hs : evi Φ C ρ true s = .ok (xs.map enc)) (hl : xs.length ≤ LL)
    (h : ∀ x ∈ xs, ∃ ρ', setT t (enc x) (wipeE ρ ws) = .ok ρ' ∧ ev Φ C ρ' false c = .ok (.bl (p x)) ∧ (p x = true → ev Φ C ρ' false e = .ok (g x))) : ev Φ C ρ b (.comp e t s (.yes c) ws) = .ok (.lst ((xs.filter p).map g)) := by
  rw [ev_comp, hs]
  simp only [R.bind_ok, List.length_map, if_pos hl]
  have key : compL (fun x => setT t x (wipeE ρ ws)) (fun ρ' => (evc Φ C ρ' (.yes c)).nox) (fun ρ' => (ev Φ C ρ' false e).nox) (xs.map enc) = .ok ((xs.filter p).map g) := by
    clear hs hl
    induction xs with
    | nil => rfl
    | cons x r ih =>
      obtain ⟨ρ', h1, h2, h3⟩ := h x List.mem_cons_self
      have ih := ih fun y hy => h y (List.mem_cons_of_mem _ hy)
      cases hp : p x with
      | false => rw [hp] at h2; simp only [evc_yes] at ih ⊢; simp [compL, h1, h2, ih, List.filter_cons, hp]
      | true => rw [hp] at h2; simp only [evc_yes] at ih ⊢; simp [compL, h1, h2, h3 hp, ih, List.filter_cons, hp]
  rw [key]; rfl
theorem for_fold {α β : Type} {Φ : Nat → List D → R D} {ρ : Rv.Env} {t : Tg} {s : Src} {body : Ss} {xs : List α} (enc : α → D) (I : β → Rv.Env → Prop) (f : β → α → β) {b0 : β} (hs : evi Φ C ρ false s = .ok (xs.map enc)) (h0 : I b0 ρ)
    (step : ∀ b x ρ, x ∈ xs → I b ρ → ∃ ρ1 ρ2, setT t (enc x) ρ = .ok ρ1 ∧ (exSs Φ C body ρ1 = .nx ρ2 ∨ exSs Φ C body ρ1 = .ct ρ2) ∧ I (f b x) ρ2) : ∃ ρ', exS Φ C (.for_ t s body) ρ = .nx ρ' ∧ I (xs.foldl f b0) ρ' := by
  rw [exS_for, hs]
  simp only [Out.ofR_ok]
  clear hs
  induction xs generalizing b0 ρ with
  | nil => exact ⟨ρ, rfl, h0⟩
  | cons x r ih =>
    obtain ⟨ρ1, ρ2, h1, h2, h3⟩ := step b0 x ρ List.mem_cons_self h0
    obtain ⟨ρ', h4, h5⟩ := ih (b0 := f b0 x) (ρ := ρ2) h3 fun b y ρ hy => step b y ρ (List.mem_cons_of_mem _ hy)
    refine ⟨ρ', ?_, h5⟩
    rw [List.map_cons, forL_cons, h1]
    rcases h2 with h2 | h2 <;> simp [h2, h4]
theorem for_rngI {Φ : Nat → List D → R D} {ρ : Rv.Env} {i : Nat} {s : Src} {body : Ss} {lo : Int} {n : Nat} (I : Nat → Rv.Env → Prop) (hs : evi Φ C ρ false s = .ok (rngL lo n)) (h0 : I 0 ρ)
    (step : ∀ k ρ, k < n → I k ρ → ∃ ρ1 ρ2, setT (.var i) (.int (lo + (k : Nat))) ρ = .ok ρ1 ∧ (exSs Φ C body ρ1 = .nx ρ2 ∨ exSs Φ C body ρ1 = .ct ρ2) ∧ I (k + 1) ρ2) : ∃ ρ', exS Φ C (.for_ (.var i) s body) ρ = .nx ρ' ∧ I n ρ' := by
  rw [exS_for, hs]
  simp only [Out.ofR_ok]
  exact forL_rng I h0 fun k ρ hk hI => step k ρ hk hI
theorem for_atI {Φ : Nat → List D → R D} {ρ : Rv.Env} {t : Tg} {s : Src} {body : Ss} {l : List D} (I : Nat → Rv.Env → Prop) (hs : evi Φ C ρ false s = .ok l) (h0 : I 0 ρ)
    (step : ∀ k x ρ, l[k]? = some x → I k ρ → ∃ ρ1 ρ2, setT t x ρ = .ok ρ1 ∧ (exSs Φ C body ρ1 = .nx ρ2 ∨ exSs Φ C body ρ1 = .ct ρ2) ∧ I (k + 1) ρ2) : ∃ ρ', exS Φ C (.for_ t s body) ρ = .nx ρ' ∧ I l.length ρ' := by
  rw [exS_for, hs]
  simp only [Out.ofR_ok]
  exact forL_at I h0 fun k x ρ hk hI => step k x ρ hk hI
theorem ix_tup {l : List D} {i : Nat} {d : D} (h : l[i]? = some d) : idxV (.tup l) (.int (i : Int)) = .ok d := by simp only [idxV, ixD, atI_nat h]
theorem ix_lst {l : List D} {i : Nat} {d : D} (h : l[i]? = some d) : idxV (.lst l) (.int (i : Int)) = .ok d := by simp only [idxV, ixD, atI_nat h]
@[simp] theorem ixT0 (x : D) (r : List D) : idxV (.tup (x :: r)) (.int 0) = .ok x := ix_tup (i := 0) rfl
@[simp] theorem ixT1 (x y : D) (r : List D) : idxV (.tup (x :: y :: r)) (.int 1) = .ok y := ix_tup (i := 1) rfl
@[simp] theorem ixT2 (x y z : D) (r : List D) : idxV (.tup (x :: y :: z :: r)) (.int 2) = .ok z := ix_tup (i := 2) rfl
@[simp] theorem ixT3 (x y z w : D) (r : List D) : idxV (.tup (x :: y :: z :: w :: r)) (.int 3) = .ok w := ix_tup (i := 3) rfl
@[simp] theorem ixL0 (x : D) (r : List D) : idxV (.lst (x :: r)) (.int 0) = .ok x := ix_lst (i := 0) rfl
@[simp] theorem ixL1 (x y : D) (r : List D) : idxV (.lst (x :: y :: r)) (.int 1) = .ok y := ix_lst (i := 1) rfl
@[simp] theorem ixL2 (x y z : D) (r : List D) : idxV (.lst (x :: y :: z :: r)) (.int 2) = .ok z := ix_lst (i := 2) rfl
/-! rows by a function -/
def tab {α : Type} (m : Nat) (f : Nat → α) : List α := (List.range m).map f
@[simp] theorem tab_length {α : Type} {m : Nat} {f : Nat → α} : (tab m f).length = m := by simp [tab]
theorem tab_get {α : Type} {m i : Nat} {f : Nat → α} (h : i < m) : (tab m f)[i]? = some (f i) := by
  simp [tab, h]
theorem tab_congr {α : Type} {m : Nat} {f g : Nat → α} (h : ∀ i, i < m → f i = g i) : tab m f = tab m g := List.map_congr_left fun i hi => h i (List.mem_range.mp hi)
theorem tab_mem {α : Type} {m : Nat} {f : Nat → α} {x : α} (h : x ∈ tab m f) : ∃ i, i < m ∧ x = f i := by
  obtain ⟨i, hi, e⟩ := List.mem_map.mp h
  exact ⟨i, List.mem_range.mp hi, e.symm⟩
theorem tab_map {α β : Type} {m : Nat} {f : Nat → α} {g : α → β} : (tab m f).map g = tab m fun i => g (f i) := by simp [tab, Function.comp_def]
theorem tab_succ {α : Type} {m : Nat} {f : Nat → α} : tab (m + 1) f = tab m f ++ [f m] := by simp [tab, List.range_succ]
theorem tab_of {α : Type} (l : List α) (z : α) : l = tab l.length fun i => l.getD i z := by
  refine List.ext_getElem? fun i => ?_
  by_cases h : i < l.length
  · rw [tab_get h, List.getElem?_eq_getElem h, List.getD_eq_getElem?_getD, List.getElem?_eq_getElem h]; rfl
  · rw [List.getElem?_eq_none (by omega), List.getElem?_eq_none (by simp; omega)]
theorem tab_set {α : Type} {m i : Nat} {f : Nat → α} {x : α} : (tab m f).set i x = tab m fun j => if j = i then x else f j := by
  refine List.ext_getElem? fun j => ?_
  by_cases h : j < m
  · rw [tab_get h, List.getElem?_set]
    split
    · rename_i e; subst e; simp [h]
    · rename_i e; rw [tab_get h, if_neg (Ne.symm e)]
  · rw [List.getElem?_eq_none (by simp; omega), List.getElem?_eq_none (by simp; omega)]
theorem tab_take {α : Type} {m k : Nat} {f : Nat → α} : (tab m f).take k = tab (min k m) f := by
  simp [tab, ← List.map_take, List.take_range]
theorem tab_ix {m : Nat} {f : Nat → D} {i : Int} (h0 : 0 ≤ i) (h : i < m) : atI (tab m f) i = some (f i.toNat) := by
  have e : i = ((i.toNat : Nat) : Int) := by omega
  rw [e]
  exact atI_nat (tab_get (by omega))
theorem tab_zip {α β : Type} {m m' : Nat} {f : Nat → α} {g : Nat → β} : (tab m f).zip (tab m' g) = tab (min m m') fun i => (f i, g i) := by
  refine List.ext_getElem? fun i => ?_
  by_cases c : i < min m m'
  · rw [tab_get c, List.getElem?_zip_eq_some.mpr (show (tab m f)[i]? = some (f i, g i).1 ∧ (tab m' g)[i]? = some (f i, g i).2 from ⟨tab_get (by omega), tab_get (by omega)⟩)]
  · rw [List.getElem?_eq_none (by simp; omega), List.getElem?_eq_none (by simp; omega)]
/-! fractions with long tops and short bottoms -/
def S2 (a d : Nat) (q : Rat) : Prop := q.num.natAbs < 2 ^ a ∧ q.den < 2 ^ d
theorem S2.mono {a a' d d' : Nat} {q : Rat} (h : S2 a d q) (ha : a ≤ a') (hd : d ≤ d') : S2 a' d' q := ⟨Nat.lt_of_lt_of_le h.1 (Nat.pow_le_pow_right (by omega) ha), Nat.lt_of_lt_of_le h.2 (Nat.pow_le_pow_right (by omega) hd)⟩
theorem Sz.s2 {k : Nat} {q : Rat} (h : Sz k q) : S2 k k q := h
theorem S2.md {a d b e : Nat} {p q : Rat} (hp : S2 a d p) (hq : S2 b e q) (ha : a ≤ 20000000) (he : e ≤ 20000000) : mulOk p.num q.den := mulOk_of hp.1 (by rw [natAbs_den]; exact hq.2) (by omega) (by omega)
theorem S2.dm {a d b e : Nat} {p q : Rat} (hp : S2 a d p) (hq : S2 b e q) (hd : d ≤ 20000000) (hb : b ≤ 20000000) : mulOk p.den q.num := mulOk_of (by rw [natAbs_den]; exact hp.2) hq.1 (by omega) (by omega)
theorem S2.mm {a d b e : Nat} {p q : Rat} (hp : S2 a d p) (hq : S2 b e q) (ha : a ≤ 20000000) (hb : b ≤ 20000000) : mulOk p.num q.num := mulOk_of hp.1 hq.1 (by omega) (by omega)
theorem S2.dd {a d b e : Nat} {p q : Rat} (hp : S2 a d p) (hq : S2 b e q) (hd : d ≤ 20000000) (he : e ≤ 20000000) : mulOk p.den q.den := mulOk_of (by rw [natAbs_den]; exact hp.2) (by rw [natAbs_den]; exact hq.2) (by omega) (by omega)
theorem S2.dl {a d b e : Nat} {p q : Rat} (hp : S2 a d p) (hq : S2 b e q) : ((p.den : Int) * q.den).natAbs < 2 ^ (d + e) := by
  rw [Int.natAbs_mul, natAbs_den, natAbs_den]
  exact mul_lt hp.2 hq.2
theorem added_at2 {n : Nat} {p q : Rat} {a b d e : Nat} (hp : S2 a d p) (hq : S2 b e q) (h : d + e ≤ 9000) (ha : a ≤ 20000000) (hb : b ≤ 20000000) : call P C (n + 3) n_added [frD p, frD q] = .ok (frD (p + q)) := by
  refine call_run rfl rfl (ρ := [.sh (frD p), .sh (frD q)]) rfl ?_
  have f := fraction_at (n := n) (t := p.num * q.den + q.num * p.den) (b := p.den * q.den) (Int.mul_ne_zero (den_ne p) (den_ne q)) (le9000 (hp.dl hq) h)
  unfold n_fraction at f
  simp [fd_added, bin_mul (hp.md hq ha (by omega)), bin_mul (hq.md hp hb (by omega)), bin_mul (hp.dd hq (by omega) (by omega)), f, add_eq]
theorem times_at2 {n : Nat} {p q : Rat} {a b d e : Nat} (hp : S2 a d p) (hq : S2 b e q) (h : d + e ≤ 9000) (ha : a ≤ 20000000) (hb : b ≤ 20000000) : call P C (n + 3) n_times [frD p, frD q] = .ok (frD (p * q)) := by
  refine call_run rfl rfl (ρ := [.sh (frD p), .sh (frD q)]) rfl ?_
  have f := fraction_at (n := n) (t := p.num * q.num) (b := p.den * q.den) (Int.mul_ne_zero (den_ne p) (den_ne q)) (le9000 (hp.dl hq) h)
  unfold n_fraction at f
  simp [fd_times, bin_mul (hp.mm hq ha hb), bin_mul (hp.dd hq (by omega) (by omega)), f, mul_eq]
theorem l_add_at2 {n : Nat} {p q : Rat} {a b d e : Nat} (hp : S2 a d p) (hq : S2 b e q) (h : d + e ≤ 9000) (ha : a ≤ 20000000) (hb : b ≤ 20000000) : call P C (n + 3) n_l_add [frD p, frD q] = .ok (frD (p + q)) := by
  refine call_run rfl rfl (ρ := [.sh (frD p), .sh (frD q)]) rfl ?_
  have hz : 0 < (p.den : Int) * q.den := Int.mul_pos (by have := p.den_nz; omega) (by have := q.den_nz; omega)
  have f := l_frac_at (n := n) (t := p.num * q.den + q.num * p.den) (b := p.den * q.den) hz (le9000 (hp.dl hq) h)
  simp [fd_l_add, bin_mul (hp.md hq ha (by omega)), bin_mul (hq.md hp hb (by omega)), bin_mul (hp.dd hq (by omega) (by omega)), f, add_eq]
theorem l_mul_at2 {n : Nat} {p q : Rat} {a b d e : Nat} (hp : S2 a d p) (hq : S2 b e q) (h : d + e ≤ 9000) (ha : a ≤ 20000000) (hb : b ≤ 20000000) : call P C (n + 3) n_l_mul [frD p, frD q] = .ok (frD (p * q)) := by
  refine call_run rfl rfl (ρ := [.sh (frD p), .sh (frD q)]) rfl ?_
  have hz : 0 < (p.den : Int) * q.den := Int.mul_pos (by have := p.den_nz; omega) (by have := q.den_nz; omega)
  have f := l_frac_at (n := n) (t := p.num * q.num) (b := p.den * q.den) hz (le9000 (hp.dl hq) h)
  simp [fd_l_mul, bin_mul (hp.mm hq ha hb), bin_mul (hp.dd hq (by omega) (by omega)), f, mul_eq]
/-! whole numbers over a bottom -/
theorem num_eq (q : Rat) : (q.num : Rat) = q * (q.den : Rat) := by
  have h : q = (q.num : Rat) / ((q.den : Int) : Rat) := by rw [← Rat.divInt_eq_div, Rat.num_divInt_den]
  have hz : ((q.den : Int) : Rat) ≠ 0 := fun z => den_ne q (Rat.intCast_eq_zero_iff.mp z)
  have e : q * ((q.den : Int) : Rat) = (q.num : Rat) / ((q.den : Int) : Rat) * ((q.den : Int) : Rat) := by rw [← h]
  rw [show (q.den : Rat) = ((q.den : Int) : Rat) from rfl, e, Rat.div_def, Rat.mul_assoc, Rat.inv_mul_cancel _ hz, Rat.mul_one]
theorem whole_val {q : Rat} {L : Nat} (h : q.den ∣ L) : ((q.num * ((L / q.den : Nat) : Int) : Int) : Rat) = q * (L : Rat) := by
  obtain ⟨c, rfl⟩ := h
  have hd : 0 < q.den := Nat.pos_of_ne_zero q.den_nz
  rw [Nat.mul_div_cancel_left _ hd, Rat.intCast_mul]
  have e : (q.num : Rat) = q * (q.den : Rat) := num_eq q
  rw [e, Rat.natCast_mul]
  show q * (q.den : Rat) * (((c : Nat) : Int) : Rat) = q * ((q.den : Rat) * (c : Rat))
  rw [Rat.mul_assoc]; rfl
theorem divInt_val {t b : Int} {x : Rat} (hb : b ≠ 0) (h : (t : Rat) = x * (b : Rat)) : Rat.divInt t b = x := by
  rw [Rat.divInt_eq_div, h, Rat.div_def, Rat.mul_assoc, Rat.mul_inv_cancel _ (fun z => hb (Rat.intCast_eq_zero_iff.mp z)), Rat.mul_one]
theorem divInt_den_dvd {t : Int} {b : Nat} (hb : b ≠ 0) : (Rat.divInt t b).den ∣ b := by
  rw [Rat.den_divInt, if_neg (by omega)]
  rw [Int.natAbs_natCast]
  exact Nat.div_dvd_of_dvd (Nat.gcd_dvd_left b t.natAbs)
/-! bottoms of sums and products -/
theorem dvd_of_val {q : Rat} {B : Nat} {t : Int} (hB : B ≠ 0) (h : q * (B : Rat) = (t : Rat)) : q.den ∣ B := by
  have : Rat.divInt t (B : Nat) = q := divInt_val (by omega) h.symm
  rw [← this]
  exact divInt_den_dvd hB
theorem val_of_dvd {q : Rat} {B : Nat} (h : q.den ∣ B) : ∃ t : Int, q * (B : Rat) = (t : Rat) := ⟨_, (whole_val h).symm⟩
theorem den_add_dvd {p q : Rat} {B : Nat} (hB : B ≠ 0) (hp : p.den ∣ B) (hq : q.den ∣ B) : (p + q).den ∣ B := by
  obtain ⟨s, hs⟩ := val_of_dvd hp
  obtain ⟨t, ht⟩ := val_of_dvd hq
  refine dvd_of_val hB (t := s + t) ?_
  rw [Rat.add_mul, hs, ht, Rat.intCast_add]
theorem den_mul_dvd {p q : Rat} {B B' : Nat} (hB : B ≠ 0) (hB' : B' ≠ 0) (hp : p.den ∣ B) (hq : q.den ∣ B') : (p * q).den ∣ B * B' := by
  obtain ⟨s, hs⟩ := val_of_dvd hp
  obtain ⟨t, ht⟩ := val_of_dvd hq
  refine dvd_of_val (Nat.mul_ne_zero hB hB') (t := s * t) ?_
  rw [Rat.intCast_mul, ← hs, ← ht, Rat.natCast_mul]
  grind
theorem den_neg (q : Rat) : (-q).den = q.den := rfl
theorem den_div_dvd {p q : Rat} {B : Nat} (hB : B ≠ 0) (hp : p.den ∣ B) (h0 : q ≠ 0) : (p / q).den ∣ B * q.num.natAbs := by
  obtain ⟨s, hs⟩ := val_of_dvd hp
  have hn := num_ne h0
  have hz : B * q.num.natAbs ≠ 0 := Nat.mul_ne_zero hB (by omega)
  have e2 : p / q = p * q⁻¹ := Rat.div_def p q
  have e1 : (q.num : Rat) = q * (q.den : Rat) := num_eq q
  have e3 : q * q⁻¹ = 1 := Rat.mul_inv_cancel _ h0
  have key : p / q * ((B : Rat) * (q.num : Rat)) = ((s * (q.den : Int) : Int) : Rat) := by
    rw [Rat.intCast_mul, ← hs, e2, e1]
    show p * q⁻¹ * (↑B * (q * ↑q.den)) = p * ↑B * (q.den : Rat)
    grind
  by_cases c : 0 ≤ q.num
  · refine dvd_of_val hz (t := s * (q.den : Int)) ?_
    rw [← key, Rat.natCast_mul]
    have : ((q.num.natAbs : Nat) : Rat) = ((q.num : Int) : Rat) := by
      rw [show ((q.num.natAbs : Nat) : Rat) = (((q.num.natAbs : Nat) : Int) : Rat) from rfl, show ((q.num.natAbs : Nat) : Int) = q.num by omega]
    rw [this]
  · refine dvd_of_val hz (t := -(s * (q.den : Int))) ?_
    rw [Rat.intCast_neg, ← key, Rat.natCast_mul]
    have : ((q.num.natAbs : Nat) : Rat) = -((q.num : Int) : Rat) := by
      rw [show ((q.num.natAbs : Nat) : Rat) = (((q.num.natAbs : Nat) : Int) : Rat) from rfl, show ((q.num.natAbs : Nat) : Int) = -q.num by omega, Rat.intCast_neg]
    rw [this]
    grind
theorem num_add_lt {p q : Rat} {a b d e k : Nat} (hp : S2 a d p) (hq : S2 b e q) (h1 : a + e ≤ k) (h2 : b + d ≤ k) (h3 : d + e ≤ k + 1) : (p + q).num.natAbs < 2 ^ (k + 1) := by
  rw [← add_eq]
  refine (divInt_sz (k := k + 1) (Int.mul_ne_zero (den_ne p) (den_ne q)) ?_ ?_).1
  · have g1 := Nat.lt_of_lt_of_le (mul_lt hp.1 hq.2) (Nat.pow_le_pow_right (by decide) h1)
    have g2 := Nat.lt_of_lt_of_le (mul_lt hq.1 hp.2) (Nat.pow_le_pow_right (by decide) h2)
    have e1 : (p.num * q.den).natAbs = p.num.natAbs * q.den := by rw [Int.natAbs_mul, natAbs_den]
    have e2 : (q.num * p.den).natAbs = q.num.natAbs * p.den := by rw [Int.natAbs_mul, natAbs_den]
    rw [Nat.pow_succ]
    omega
  · exact Nat.lt_of_lt_of_le (hp.dl hq) (Nat.pow_le_pow_right (by decide) h3)
theorem num_mul_lt {p q : Rat} {a b d e : Nat} (hp : S2 a d p) (hq : S2 b e q) : (p * q).num.natAbs < 2 ^ (a + b + d + e) := by
  rw [← mul_eq]
  refine (divInt_sz (k := a + b + d + e) (Int.mul_ne_zero (den_ne p) (den_ne q)) ?_ ?_).1
  · rw [Int.natAbs_mul]
    exact Nat.lt_of_lt_of_le (mul_lt hp.1 hq.1) (Nat.pow_le_pow_right (by decide) (by omega))
  · exact Nat.lt_of_lt_of_le (hp.dl hq) (Nat.pow_le_pow_right (by decide) (by omega))
theorem num_div_lt {p q : Rat} {a b d e : Nat} (hp : S2 a d p) (hq : S2 b e q) (h0 : q ≠ 0) : (p / q).num.natAbs < 2 ^ (a + b + d + e) := by
  rw [← div_eq]
  refine (divInt_sz (k := a + b + d + e) (Int.mul_ne_zero (den_ne p) (num_ne h0)) ?_ ?_).1
  · rw [Int.natAbs_mul, natAbs_den]
    exact Nat.lt_of_lt_of_le (mul_lt hp.1 hq.2) (Nat.pow_le_pow_right (by decide) (by omega))
  · rw [Int.natAbs_mul, natAbs_den]
    exact Nat.lt_of_lt_of_le (mul_lt hp.2 hq.1) (Nat.pow_le_pow_right (by decide) (by omega))
/-! one statement after the other -/
section
variable {Φ : Nat → List D → R D} {ρ : Rv.Env} {ss : Ss}
theorem s_ifF {c : Ex} {a b : Ss} (h : ev Φ C ρ false c = .ok (.bl false)) : exSs Φ C (.cons (.ife c a b) ss) ρ = (match exSs Φ C b ρ with | .nx ρ' => exSs Φ C ss ρ' | o => o) := by
  rw [exSs_cons, exS_ife, h]; rfl
theorem s_ifF0 {c : Ex} {a : Ss} (h : ev Φ C ρ false c = .ok (.bl false)) : exSs Φ C (.cons (.ife c a .nil) ss) ρ = exSs Φ C ss ρ := by
  rw [s_ifF h]; simp
theorem s_ifT {c : Ex} {a b : Ss} (h : ev Φ C ρ false c = .ok (.bl true)) : exSs Φ C (.cons (.ife c a b) ss) ρ = (match exSs Φ C a ρ with | .nx ρ' => exSs Φ C ss ρ' | o => o) := by
  rw [exSs_cons, exS_ife, h]; rfl
theorem s_asg {i : Nat} {e : Ex} {d : D} (h : ev Φ C ρ false e = .ok d) (hn : (ρ[i]?).map nlB = some true) : exSs Φ C (.cons (.asg i e false) ss) ρ = exSs Φ C ss (ρ.set i (.sh d)) := by
  rw [exSs_cons, exS_asg, h, Out.ofR_ok, mkSl_sh, stE_nl hn]; rfl
theorem s_own {i : Nat} {e : Ex} {l : List D} (h : ev Φ C ρ false e = .ok (.lst l)) (hn : (ρ[i]?).map nlB = some true) : exSs Φ C (.cons (.asg i e true) ss) ρ = exSs Φ C ss (ρ.set i (.own (.lst l))) := by
  rw [exSs_cons, exS_asg, h, Out.ofR_ok, mkSl_l, stE_nl hn]; rfl
theorem s_par {i j : Nat} {a b : Ex} {x y : D} (h1 : ev Φ C ρ false a = .ok x) (h2 : ev Φ C ρ false b = .ok y) (hn : (ρ[i]?).map nlB = some true) (hn2 : ((ρ.set i (.sh x))[j]?).map nlB = some true) : exSs Φ C (.cons (.par i j a b) ss) ρ = exSs Φ C ss ((ρ.set i (.sh x)).set j (.sh y)) := by
  rw [exSs_cons, exS_par, h1, h2]
  simp only [Out.ofR_ok, stE_nl hn, R.bind_ok, stE_nl hn2]
theorem s_par3 {i j l : Nat} {a b c : Ex} {x y z : D} (h1 : ev Φ C ρ false a = .ok x) (h2 : ev Φ C ρ false b = .ok y) (h3 : ev Φ C ρ false c = .ok z) (hn : (ρ[i]?).map nlB = some true) (hn2 : ((ρ.set i (.sh x))[j]?).map nlB = some true) (hn3 : (((ρ.set i (.sh x)).set j (.sh y))[l]?).map nlB = some true) :
    exSs Φ C (.cons (.par3 i j l a b c) ss) ρ = exSs Φ C ss (((ρ.set i (.sh x)).set j (.sh y)).set l (.sh z)) := by
  rw [exSs_cons, exS_par3, h1, h2, h3]
  simp only [Out.ofR_ok, stE_nl hn, R.bind_ok, stE_nl hn2, stE_nl hn3]
theorem s_unp {t : Tg} {e : Ex} {d : D} {ρ' : Rv.Env} (h : ev Φ C ρ false e = .ok d) (h2 : setT t d ρ = .ok ρ') : exSs Φ C (.cons (.unp t e) ss) ρ = exSs Φ C ss ρ' := by
  rw [exSs_cons, exS_unp, h, Out.ofR_ok, h2]; rfl
theorem s_run {s : S} {ρ' : Rv.Env} (h : exS Φ C s ρ = .nx ρ') : exSs Φ C (.cons s ss) ρ = exSs Φ C ss ρ' := by
  rw [exSs_cons, h]
theorem s_ret {e : Ex} {d : D} (h : ev Φ C ρ false e = .ok d) : exSs Φ C (.cons (.ret e) ss) ρ = .ret d := by
  rw [exSs_cons, exS_ret, h]; rfl
theorem ev_orF {a b : Ex} (h1 : ev Φ C ρ false a = .ok (.bl false)) (h2 : ev Φ C ρ false b = .ok (.bl false)) : ev Φ C ρ false (.or a b) = .ok (.bl false) := by
  rw [ev_or, h1, truB_ok, R.bind_ok, h2]; rfl
theorem ev_cmpB {o : Co} {a b : Ex} {x y : D} {k : Bool} {z : Bool} (h1 : ev Φ C ρ true a = .ok x) (h2 : ev Φ C ρ true b = .ok y) (h : cmpV o x y = .ok k) : ev Φ C ρ z (.cmp o a b) = .ok (.bl k) := by
  rw [ev_cmp, h1, h2]
  simp only [R.bind_ok, h]; rfl
end
theorem law_cells2 {n : Nat} {ns : List Int} {k : Nat} (hk : 1 ≤ k) (hk2 : k ≤ 63) (L : Nat) {body : Ss}
    (turn : ∀ (cell : Int) (r : Rv.Env), r.length = L → (∀ x ∈ r, nlB x = true) → ∃ r', r'.length = L ∧ (∀ x ∈ r', nlB x = true) ∧ exSs (call P C (n + 1)) C body (.sh (lsI ns) :: .sh (.int cell) :: r) = .nx (.sh (lsI ns) :: .sh (.int cell) :: r')) :
    ∃ ρ', exS (call P C (n + 1)) C (.for_ (.var 1) (.it (.bin .add (.lst (.cons (.call n_l_cell_at (.cons (.var 0) (.cons (.int 0) .nil))) .nil)) (.slc (.var 0) (.yes (.int 1)) (.yes (.int (k : Int)))))) body) (.sh (lsI ns) :: List.replicate (L + 1) .un) = .nx ρ' := by
  refine law_cells hk hk2 (L := L + 2) (by omega) (ok0_start (s := lsI ns) (k := L + 1)) fun cell ρ ho h1 => ?_
  obtain ⟨hl, h0, hn⟩ := ho
  match ρ, hl, h0, hn, h1 with
  | a0 :: a1 :: r, hl, h0, hn, h1 =>
    cases (show a0 = .sh (lsI ns) from Option.some.inj h0)
    cases (show a1 = .sh (.int cell) from Option.some.inj h1)
    have hr : ∀ x ∈ r, nlB x = true := fun x hx => by
      obtain ⟨i, hi⟩ := List.mem_iff_getElem?.mp hx
      have := hn (i + 2)
      rw [List.getElem?_cons_succ, List.getElem?_cons_succ, hi] at this
      cases x <;> first | rfl | exact absurd rfl this
    obtain ⟨r', g1, g2, g3⟩ := turn cell r (by simpa using hl) hr
    refine ⟨_, ok0_of (by simp [g1]) rfl ?_, g3⟩
    intro z
    rcases List.mem_cons.mp z with z | z
    · cases z
    rcases List.mem_cons.mp z with z | z
    · cases z
    · have := g2 _ z
      cases this
theorem nl_in {r : Rv.Env} {x : Sl} (hx : nlB x = true) (hr : ∀ y ∈ r, nlB y = true) : ∀ y ∈ x :: r, nlB y = true := fun y hy => by
  rcases List.mem_cons.mp hy with rfl | hy
  · exact hx
  · exact hr y hy
theorem nl_no : ∀ y ∈ ([] : Rv.Env), nlB y = true := by simp
theorem pickD {m : Nat} {s : Int} {l : List Int} (h : Dr m s l) {k : Nat} (hk : k < m) : idxV (lsI l) (.int (k : Int)) = .ok (.int (l.getD k 0)) := by
  have := ix_lsI (l := l) (i := (k : Int)) (by omega) (by rw [h.1]; omega)
  rw [Int.toNat_natCast] at this
  exact this
theorem pickE {m : Nat} {s : Int} {l : List Int} (h : Dr m s l) (k : Int) (j : Nat) (e : k = (j : Int)) (hk : j < m) : idxV (lsI l) (.int k) = .ok (.int (l.getD j 0)) := by
  rw [e]; exact pickD h hk
/-! whole numbers as rows -/
def lsF (m : Nat) (p : Nat → Int) : D := .lst (tab m fun i => .int (p i))
def lofF (m : Nat) (p : Nat → Rat) : D := lof (tab m p)
theorem ixV_at {n : Nat} {i : Int} (h0 : 0 ≤ i) (h : i < n) : ixV n (.int i) = .ok i.toNat := by
  simp [ixV, ixN, h0, h]
theorem idx_lsF {m : Nat} {p : Nat → Int} {i : Int} (h0 : 0 ≤ i) (h : i < m) : idxV (lsF m p) (.int i) = .ok (.int (p i.toNat)) := by
  simp [idxV, lsF, ixD, tab_ix h0 h]
theorem idx_lofF {m : Nat} {p : Nat → Rat} {i : Int} (h0 : 0 ≤ i) (h : i < m) : idxV (lofF m p) (.int i) = .ok (frD (p i.toNat)) := by
  simp [idxV, lofF, lof, ixD, tab_map, tab_ix h0 h]
def Rw (a d : Nat) (l : List Rat) : Prop := l.length ≤ 1000 ∧ ∃ B : Nat, 0 < B ∧ B < 2 ^ d ∧ ∀ q ∈ l, q.den ∣ B ∧ q.num.natAbs < 2 ^ a
theorem Rw.mono {a a' d d' : Nat} {l : List Rat} (h : Rw a d l) (ha : a ≤ a') (hd : d ≤ d') : Rw a' d' l := by
  obtain ⟨h1, B, h2, h3, h4⟩ := h
  exact ⟨h1, B, h2, Nat.lt_of_lt_of_le h3 (Nat.pow_le_pow_right (by omega) hd), fun q hq => ⟨(h4 q hq).1, Nat.lt_of_lt_of_le (h4 q hq).2 (Nat.pow_le_pow_right (by omega) ha)⟩⟩
theorem Rw.sz {a d : Nat} {l : List Rat} (h : Rw a d l) {q : Rat} (hq : q ∈ l) : q.num.natAbs < 2 ^ a ∧ q.den < 2 ^ d := by
  obtain ⟨h1, B, h2, h3, h4⟩ := h
  exact ⟨(h4 q hq).2, Nat.lt_of_le_of_lt (Nat.le_of_dvd h2 (h4 q hq).1) h3⟩
theorem lcD_one_dvd {l : List Rat} {B : Nat} (h : ∀ q ∈ l, q.den ∣ B) : ∀ {b : Nat}, b ∣ B → lcD b l ∣ B := by
  induction l with
  | nil => exact fun hb => hb
  | cons q l ih =>
    intro b hb
    rw [lcD_cons]
    exact ih (fun x hx => h x (List.mem_cons_of_mem _ hx)) (Nat.lcm_dvd hb (h q List.mem_cons_self))
theorem Rw.lc {a d : Nat} {l : List Rat} (h : Rw a d l) : 0 < lcD 1 l ∧ lcD 1 l < 2 ^ d := by
  obtain ⟨h1, B, h2, h3, h4⟩ := h
  exact ⟨lcD_pos (by decide), Nat.lt_of_le_of_lt (Nat.le_of_dvd h2 (lcD_one_dvd (fun q hq => (h4 q hq).1) (Nat.one_dvd B))) h3⟩
theorem natmul_ok {x y : Nat} {a b : Nat} (hx : x < 2 ^ a) (hy : y < 2 ^ b) (ha : a ≤ 30000000) (hb : b ≤ 30000000) : mulOk (x : Int) (y : Int) := mulOk_of (a := a) (b := b) (by simpa using hx) (by simpa using hy) ha hb
/-! sums of whole numbers -/
def smI (n : Nat) (f : Nat → Int) : Int := match n with
  | 0 => 0
  | n + 1 => smI n f + f n
theorem smI_succ (n : Nat) (f : Nat → Int) : smI (n + 1) f = smI n f + f n := rfl
theorem smI_congr {n : Nat} {f g : Nat → Int} (h : ∀ i, i < n → f i = g i) : smI n f = smI n g := by
  induction n with
  | zero => rfl
  | succ n ih => rw [smI_succ, smI_succ, ih fun i hi => h i (by omega), h n (by omega)]
def cvI (p q : Nat → Int) (n : Nat) : Int := smI (n + 1) fun i => p i * q (n - i)
theorem smI_cast (n : Nat) (f : Nat → Int) : ((smI n f : Int) : Rat) = sm n fun i => (f i : Rat) := by
  induction n with
  | zero => rfl
  | succ n ih => rw [smI_succ, sm_succ, Rat.intCast_add, ih]
theorem cvI_cast (p q : Nat → Int) (n : Nat) : ((cvI p q n : Int) : Rat) = cv (fun i => (p i : Rat)) (fun i => (q i : Rat)) n := by
  unfold cvI cv
  rw [smI_cast]
  exact sm_congr fun i _ => by rw [Rat.intCast_mul]
/-! products of rows -/
theorem cv_scale (p q : Nat → Rat) (x y : Rat) (n : Nat) : cv (fun i => p i * x) (fun i => q i * y) n = cv p q n * (x * y) := by
  unfold cv
  have : sm (n + 1) (fun i => p i * x * (q (n - i) * y)) = sm (n + 1) fun i => (x * y) * (p i * q (n - i)) := sm_congr fun i _ => by grind
  rw [this, sm_mul, Rat.mul_comm]
theorem cv_congr {p p' q q' : Nat → Rat} {n : Nat} (hp : ∀ i, i ≤ n → p i = p' i) (hq : ∀ i, i ≤ n → q i = q' i) : cv p q n = cv p' q' n := sm_congr fun i hi => by rw [hp i (by omega), hq (n - i) (by omega)]
theorem smI_le {n : Nat} {f : Nat → Int} {B : Nat} (h : ∀ i, i < n → (f i).natAbs ≤ B) : (smI n f).natAbs ≤ n * B := by
  induction n with
  | zero => simp [smI]
  | succ n ih =>
    rw [smI_succ]
    have h1 := ih fun i hi => h i (by omega)
    have h2 := h n (by omega)
    have h3 := Int.natAbs_add_le (smI n f) (f n)
    rw [Nat.succ_mul]
    omega
theorem cvI_lt {p q : Nat → Int} {n a b : Nat} (hn : n < 1000) (hp : ∀ i, i ≤ n → (p i).natAbs < 2 ^ a) (hq : ∀ i, i ≤ n → (q i).natAbs < 2 ^ b) : (cvI p q n).natAbs < 2 ^ (a + b + 10) := by
  have h := smI_le (n := n + 1) (f := fun i => p i * q (n - i)) (B := 2 ^ (a + b)) fun i hi => by
    have := mul_lt (hp i (by omega)) (hq (n - i) (by omega))
    rw [Int.natAbs_mul]
    omega
  refine Nat.lt_of_le_of_lt h ?_
  rw [Nat.pow_add _ _ 10, Nat.mul_comm]
  have := Nat.two_pow_pos (a + b)
  refine Nat.mul_lt_mul_of_pos_left ?_ this
  have : (2 : Nat) ^ 10 = 1024 := by decide
  omega
/-! powers of rows -/
def pwr (p : Nat → Rat) : Nat → Nat → Rat
  | 0 => one'
  | k + 1 => cv (pwr p k) p
theorem tab_one {m : Nat} (hm : 1 ≤ m) : tab m one' = 1 :: List.replicate (m - 1) 0 := by
  obtain ⟨k, rfl⟩ : ∃ k, m = k + 1 := ⟨m - 1, by omega⟩
  refine List.ext_getElem? fun i => ?_
  cases i with
  | zero => rw [tab_get (by omega)]; rfl
  | succ i =>
    rw [List.getElem?_cons_succ, List.getElem?_replicate]
    by_cases h : i < k
    · rw [tab_get (by omega), if_pos (by omega)]; rfl
    · rw [List.getElem?_eq_none (by simp; omega), if_neg (by omega)]
theorem rw_one {m : Nat} (hm2 : m ≤ 1000) : Rw 1 1 (tab m one') := ⟨by simp; exact hm2, 1, by decide, by decide, fun q hq => by
  obtain ⟨i, hi, rfl⟩ := tab_mem hq
  by_cases h : i = 0
  · simp [one', h]
  · simp [one', h]⟩
theorem one_row {Φ : Nat → List D → R D} {ρ : Rv.Env} {m : Nat} {p : Nat → Rat} (hm : 1 ≤ m) (hm2 : m ≤ 1000) (h0 : ρ[0]? = some (.sh (lofF m p))) :
    ev Φ C ρ false (.bin .add (.tup (.cons (.glb gl_ONE) .nil)) (.bin .mul (.tup (.cons (.glb gl_NOUGHT) .nil)) (.bin .sub (.bfn .len (.cons (.var 0) .nil)) (.int 1)))) = .ok (lofF m one') := by
  have c1 : C gl_ONE = frD 1 := rfl
  have c2 : C gl_NOUGHT = frD 0 := rfl
  have hl : bfn .len [lofF m p] = .ok (.int (m : Int)) := by simp [lofF, lof]
  have rep : dRep [frD 0] (m - 1) = List.replicate (m - 1) (frD 0) := by
    simp only [dRep]
    generalize m - 1 = k
    induction k with
    | zero => rfl
    | succ k ih => rw [List.replicate_succ, List.flatten_cons, ih, List.replicate_succ]; rfl
  have hr : rngOk ((m : Int) - 1) := ⟨by omega, by omega⟩
  have hmul : Rv.bin .mul (.tup [frD 0]) (.int ((m : Int) - 1)) = .ok (.tup (List.replicate (m - 1) (frD 0))) := by
    have et : ((m : Int) - 1).toNat = m - 1 := by omega
    simp [Rv.bin, hr, et, rep]
    omega
  simp only [ev_bin, ev_tup, evs_cons, evs_nil, ev_glb, c1, c2, ev_bfn, ev_var, ev_int, h0, R.bind_ok, hl, List.length_cons, List.length_nil, LL]
  simp [hmul]
  simp only [Rv.bin, List.length_cons, List.length_nil, List.length_replicate, LL]
  rw [if_pos (by omega), lofF, lof, tab_one hm, List.map_cons, List.map_replicate]
  rfl
/-! rows shared -/
def shl (p q : Nat → Rat) : Nat → List Rat
  | 0 => []
  | n + 1 => shl p q n ++ [(p n - sm n fun k => q (k + 1) * (shl p q n).getD (n - 1 - k) 0) / q 0]
theorem shl_length (p q : Nat → Rat) : ∀ n, (shl p q n).length = n
  | 0 => rfl
  | n + 1 => by simp [shl, shl_length p q n]
def shr (p q : Nat → Rat) (n : Nat) : Rat := (shl p q (n + 1)).getD n 0
theorem shl_get (p q : Nat → Rat) : ∀ n i, i < n → (shl p q n).getD i 0 = shr p q i := by
  intro n
  induction n with
  | zero => intro i h; omega
  | succ n ih =>
    intro i h
    by_cases c : i = n
    · subst c; rfl
    · rw [← ih i (by omega), shl]
      simp only [List.getD_eq_getElem?_getD]
      rw [List.getElem?_append_left (by rw [shl_length]; omega)]
theorem shr_eq (p q : Nat → Rat) (n : Nat) : shr p q n = (p n - sm n fun k => q (k + 1) * shr p q (n - 1 - k)) / q 0 := by
  have e : shr p q n = (p n - sm n fun k => q (k + 1) * (shl p q n).getD (n - 1 - k) 0) / q 0 := by
    unfold shr
    rw [shl]
    simp only [List.getD_eq_getElem?_getD]
    rw [List.getElem?_append_right (by rw [shl_length]; exact Nat.le_refl _), shl_length, Nat.sub_self]
    rfl
  rw [e]
  congr 2
  exact sm_congr fun k hk => by rw [shl_get p q n _ (by omega)]
theorem cv_shr (p q : Nat → Rat) (h0 : q 0 ≠ 0) (n : Nat) : cv (shr p q) q n = p n := by
  rw [cv_comm]
  unfold cv
  rw [sm_head]
  have e : sm n (fun i => q (i + 1) * shr p q (n - (i + 1))) = sm n fun k => q (k + 1) * shr p q (n - 1 - k) := sm_congr fun i hi => by rw [show n - (i + 1) = n - 1 - i by omega]
  rw [e]
  have e2 := shr_eq p q n
  have e3 : q 0 * shr p q n = p n - sm n fun k => q (k + 1) * shr p q (n - 1 - k) := by
    rw [e2, Rat.div_def, Rat.mul_comm, Rat.mul_assoc, Rat.inv_mul_cancel _ h0, Rat.mul_one]
  rw [show n - 0 = n from rfl, e3]
  grind
def gB (P Q a n : Nat) : Nat := P * (Q * a) ^ n
theorem gB_dvd (P Q a : Nat) {i n : Nat} (h : i ≤ n) : gB P Q a i ∣ gB P Q a n := Nat.mul_dvd_mul_left P (Nat.pow_dvd_pow _ h)
/-! rows: sums and products by a number, sizes -/
theorem Rw.fn {a d m : Nat} {p : Nat → Rat} (h : Rw a d (tab m p)) : m ≤ 1000 ∧ ∃ B : Nat, 0 < B ∧ B < 2 ^ d ∧ ∀ i, i < m → (p i).den ∣ B ∧ (p i).num.natAbs < 2 ^ a := by
  obtain ⟨h1, B, h2, h3, h4⟩ := h
  exact ⟨by simpa using h1, B, h2, h3, fun i hi => h4 _ (List.mem_map.mpr ⟨i, List.mem_range.mpr hi, rfl⟩)⟩
theorem rw_mk {a d m B : Nat} {p : Nat → Rat} (hm : m ≤ 1000) (h0 : 0 < B) (hB : B < 2 ^ d) (h : ∀ i, i < m → (p i).den ∣ B ∧ (p i).num.natAbs < 2 ^ a) : Rw a d (tab m p) :=
  ⟨by simpa using hm, B, h0, hB, fun q hq => by obtain ⟨i, hi, rfl⟩ := tab_mem hq; exact h i hi⟩
theorem Rw.at {a d m : Nat} {p : Nat → Rat} (h : Rw a d (tab m p)) {i : Nat} (hi : i < m) : S2 a d (p i) := h.sz (List.mem_map.mpr ⟨i, List.mem_range.mpr hi, rfl⟩)
theorem rw_cong {a d m : Nat} {p q : Nat → Rat} (h : Rw a d (tab m p)) (e : ∀ i, i < m → p i = q i) : Rw a d (tab m q) := by rw [← tab_congr e]; exact h
theorem rw_draw {m : Nat} {qs : List Rat} (hl : qs.length = m) (hm : m ≤ 1000) (h : ∀ q ∈ qs, Sz 42 q) : Rw 42 (42 * m + 1) (tab m fun i => qs.getD i 0) := by
  have e : tab m (fun i => qs.getD i 0) = qs := by rw [← hl]; exact (tab_of qs 0).symm
  rw [e]
  refine ⟨by omega, lcD 1 qs, lcD_pos (by decide), ?_, fun q hq => ⟨lcD_dvd.2 q hq, (h q hq).1⟩⟩
  have := lcD_lt (k := 42) (l := qs) (fun q hq => Nat.le_of_lt (h q hq).2) (b := 1) (j := 0) (by decide)
  rw [hl] at this
  refine Nat.lt_of_le_of_lt this ?_
  exact Nat.pow_lt_pow_right (by decide) (by omega)
theorem lof_draw {m : Nat} {qs : List Rat} (hl : qs.length = m) : lof qs = lofF m fun i => qs.getD i 0 := by
  unfold lofF
  rw [← hl, ← tab_of qs 0]
theorem rw_add {a d a' d' m : Nat} {p q : Nat → Rat} (h : Rw a d (tab m p)) (h' : Rw a' d' (tab m q)) : Rw (a + a' + d + d' + 1) (d + d') (tab m fun i => p i + q i) := by
  obtain ⟨hm, B, b0, b1, b2⟩ := h.fn
  obtain ⟨_, B', c0, c1, c2⟩ := h'.fn
  refine rw_mk hm (Nat.mul_pos b0 c0) (mul_lt b1 c1) fun i hi => ⟨den_add_dvd (Nat.ne_of_gt (Nat.mul_pos b0 c0)) (Nat.dvd_trans (b2 i hi).1 ⟨B', rfl⟩) (Nat.dvd_trans (c2 i hi).1 ⟨B, Nat.mul_comm _ _⟩), ?_⟩
  exact num_add_lt (h.at hi) (h'.at hi) (by omega) (by omega) (by omega)
theorem rw_mul {a d a' d' m : Nat} {p : Nat → Rat} {q : Rat} (h : Rw a d (tab m p)) (h' : S2 a' d' q) : Rw (a + a' + d + d') (d + d') (tab m fun i => p i * q) := by
  obtain ⟨hm, B, b0, b1, b2⟩ := h.fn
  have qd : 0 < q.den := Nat.pos_of_ne_zero q.den_nz
  exact rw_mk hm (Nat.mul_pos b0 qd) (mul_lt b1 h'.2) fun i hi => ⟨den_mul_dvd (by omega) (by omega) (b2 i hi).1 (Nat.dvd_refl _), num_mul_lt (h.at hi) h'⟩
theorem ne_row {m : Nat} {p q : Nat → Rat} (h : ∀ i, i < m → p i = q i) : cmpV .ne (lofF m p) (lofF m q) = .ok false := by
  have e : lofF m p = lofF m q := by unfold lofF; rw [tab_congr h]
  rw [e]
  refine ne_self' ?_
  unfold lofF lof
  show (List.map frD (tab m q)).all (eqOk 11) = true
  rw [List.all_eq_true]
  intro x hx
  obtain ⟨y, _, rfl⟩ := List.mem_map.mp hx
  rfl
theorem pwr_add (p : Nat → Rat) (j : Nat) : ∀ k i, cv (pwr p j) (pwr p k) i = pwr p (j + k) i
  | 0, i => by
    rw [cv_comm]
    exact cv_one _ _
  | k + 1, i => by
    show cv (pwr p j) (cv (pwr p k) p) i = cv (pwr p (j + k)) p i
    rw [← cv_assoc]
    exact cv_congr (fun x _ => pwr_add p j k x) fun _ _ => rfl
theorem dRep_one (d : D) (m : Nat) : dRep [d] m = tab m fun _ => d := by
  simp only [dRep, tab]
  induction m with
  | zero => rfl
  | succ k ih => rw [List.replicate_succ', List.flatten_append, ih, List.range_succ, List.map_append]; rfl
theorem zeros_row {m : Nat} (hm : m ≤ 1000) : Rv.bin .mul (.tup [frD 0]) (.int (m : Int)) = .ok (lofF m fun _ => 0) := by
  have hr : rngOk (m : Int) := ⟨by omega, by omega⟩
  simp [Rv.bin, hr, dRep_one, lofF, lof, tab_map]
  omega
/-! slopes, spread and thinned rows -/
theorem enmL_tab {m : Nat} {f : Nat → D} : enmL (tab m f) = tab m fun i => .tup [.int (i : Int), f i] := by
  refine List.ext_getElem? fun i => ?_
  by_cases c : i < m
  · rw [tab_get c]
    unfold enmL
    rw [List.getElem?_map, List.getElem?_zip_eq_some.mpr (show (List.range (tab m f).length)[i]? = some (i, f i).1 ∧ (tab m f)[i]? = some (i, f i).2 from ⟨by rw [tab_length, List.getElem?_range c], tab_get c⟩)]
    rfl
  · rw [List.getElem?_eq_none (by rw [enmL_len]; simp; omega), List.getElem?_eq_none (by simp; omega)]
theorem nat_fr (i : Nat) : D.tup [.int (i : Int), .int 1] = frD (((i : Nat) : Int) : Rat) := rfl
theorem int_fr (i : Int) : D.tup [.int i, .int 1] = frD ((i : Int) : Rat) := rfl
theorem s2_nat {i k : Nat} (h : i < 2 ^ k) : S2 k 1 (((i : Nat) : Int) : Rat) := ⟨by show ((i : Nat) : Int).natAbs < _; rw [Int.natAbs_natCast]; exact h, by show 1 < 2 ^ 1; decide⟩
theorem s2_int {i : Int} {k : Nat} (h : i.natAbs < 2 ^ k) : S2 k 1 ((i : Int) : Rat) := ⟨h, by show 1 < 2 ^ 1; decide⟩
theorem rw_slope {a d m : Nat} {p : Nat → Rat} (h : Rw a d (tab m p)) : Rw (a + 11 + d) d (tab m fun i => p i * (((i : Nat) : Int) : Rat)) := by
  obtain ⟨hm, B, b0, b1, b2⟩ := h.fn
  refine rw_mk hm b0 b1 fun i hi => ⟨?_, ?_⟩
  · have := den_mul_dvd (p := p i) (q := (((i : Nat) : Int) : Rat)) (B := B) (B' := 1) (by omega) (by decide) (b2 i hi).1 (Nat.dvd_refl 1)
    rwa [Nat.mul_one] at this
  · exact Nat.lt_of_lt_of_le (num_mul_lt (h.at hi) (s2_nat (k := 10) (by omega))) (Nat.pow_le_pow_right (by decide) (by omega))
def spr (p : Nat → Rat) (c : Nat) (i : Nat) : Rat := if i % c = 0 then p (i / c) else 0
theorem rw_spr {a d m c : Nat} {p : Nat → Rat} (h : Rw a d (tab m p)) (hc : 1 ≤ c) : Rw a d (tab m (spr p c)) := by
  obtain ⟨hm, B, b0, b1, b2⟩ := h.fn
  refine rw_mk hm b0 b1 fun i hi => ?_
  unfold spr
  split
  · exact b2 _ (Nat.lt_of_le_of_lt (Nat.div_le_self _ _) hi)
  · exact ⟨Nat.one_dvd B, Nat.two_pow_pos a⟩
theorem stT_tab {α : Type} {m c : Nat} {f : Nat → α} (hm : 1 ≤ m) (hc : 1 ≤ c) : stT (tab m f) (c : Int) = tab ((m - 1) / c + 1) fun k => f (k * c) := by
  unfold stT Builtin.Slice.slicePlaces
  simp only [show ¬ ((c : Int) < 0) by omega, if_false, show (c : Int) > 0 by omega, if_true, tab_length, show (0 : Int) < (m : Int) by omega]
  have e : (((m : Int) - 0 - 1) / (c : Int) + 1).toNat = (m - 1) / c + 1 := by
    have : ((m : Int) - 0 - 1) = ((m - 1 : Nat) : Int) := by omega
    rw [this]
    obtain ⟨x, hx⟩ : ∃ x, x = (m - 1) / c := ⟨_, rfl⟩
    have : ((m - 1 : Nat) : Int) / (c : Int) = ((x : Nat) : Int) := by rw [hx]; rfl
    rw [this, ← hx]; omega
  rw [e]
  have key : ∀ K, K ≤ (m - 1) / c + 1 → (List.range K).filterMap (fun (k : Nat) => (tab m f)[(0 + (k : Int) * (c : Int)).toNat]?) = tab K fun k => f (k * c) := by
    intro K
    induction K with
    | zero => exact fun _ => rfl
    | succ K ih =>
      intro hK
      rw [List.range_succ, List.filterMap_append, ih (by omega), tab_succ]
      congr 1
      have e2 : (0 + (K : Int) * (c : Int)).toNat = K * c := by
        rw [Int.zero_add, show (K : Int) * (c : Int) = ((K * c : Nat) : Int) by simp, Int.toNat_natCast]
      have hlt : K * c < m := by
        have h1 : K * c ≤ (m - 1) / c * c := Nat.mul_le_mul_right c (by omega)
        have h2 := Nat.div_mul_le_self (m - 1) c
        omega
      simp only [List.filterMap_cons, e2, tab_get hlt, List.filterMap_nil]
  exact key _ (Nat.le_refl _)
theorem rng3_up {m c : Nat} (hm : 1 ≤ m) (hm2 : m ≤ 100000) (hc : 1 ≤ c) (hc2 : c ≤ 100000) : rngV [.int 0, .int (m : Int), .int (c : Int)] = .ok (tab ((m - 1) / c + 1) fun k => .int ((k * c : Nat) : Int)) := by
  have hb := Nat.div_le_self (m - 1) c
  obtain ⟨x, hx⟩ : ∃ x, x = (m - 1) / c := ⟨_, rfl⟩
  rw [← hx] at hb ⊢
  have es : Builtin.Range.rangeSize 0 (m : Int) (c : Int) = ((x + 1 : Nat) : Int) := by
    unfold Builtin.Range.rangeSize
    rw [if_pos (by omega), if_pos (by omega)]
    have : ((m : Int) - 0 - 1) = ((m - 1 : Nat) : Int) := by omega
    rw [this]
    have : ((m - 1 : Nat) : Int) / (c : Int) = ((x : Nat) : Int) := by rw [hx]; rfl
    rw [this]; omega
  have ok : rng3Ok 0 (m : Int) (c : Int) := by
    unfold rng3Ok RgC
    rw [es, Int.toNat_natCast]
    refine ⟨by omega, by omega, ?_, rfl⟩
    unfold Builtin.Range.small
    rw [es]
    unfold Builtin.Range.rangeFitsLong
    rw [if_pos (show (c : Int) > 0 by omega)]
    simp only [Bool.and_eq_true, Bool.or_eq_true, decide_eq_true_eq, beq_iff_eq]
    omega
  simp only [rngV, if_pos ok, es]
  congr 1
  unfold rngC tab
  rw [Int.toNat_natCast]
  refine List.map_congr_left fun k _ => ?_
  simp
/-! sums over divisors -/
def rn (i : Nat) : List Nat := (List.range i).map (· + 1)
theorem rn_mem {d i : Nat} : d ∈ rn i ↔ 1 ≤ d ∧ d ≤ i := by
  simp only [rn, List.mem_map, List.mem_range]
  exact ⟨fun ⟨a, h1, h2⟩ => by omega, fun ⟨h1, h2⟩ => ⟨d - 1, by omega, by omega⟩⟩
def su (l : List Nat) (f : Nat → Int) : Int := (l.map f).sum
@[simp] theorem su_nil (f : Nat → Int) : su [] f = 0 := rfl
@[simp] theorem su_cons (x : Nat) (l : List Nat) (f : Nat → Int) : su (x :: l) f = f x + su l f := by simp [su]
theorem su_congr {l : List Nat} {f g : Nat → Int} (h : ∀ x ∈ l, f x = g x) : su l f = su l g := by
  unfold su
  rw [List.map_congr_left h]
theorem su_add (l : List Nat) (f g : Nat → Int) : su l (fun x => f x + g x) = su l f + su l g := by
  induction l with
  | nil => rfl
  | cons x r ih => simp only [su_cons, ih]; omega
theorem su_mul (l : List Nat) (c : Int) (f : Nat → Int) : su l (fun x => c * f x) = c * su l f := by
  induction l with
  | nil => simp
  | cons x r ih => simp only [su_cons, ih, Int.mul_add]
theorem su_zero (l : List Nat) : su l (fun _ => 0) = 0 := by
  induction l with
  | nil => rfl
  | cons x r ih => simp only [su_cons, ih]; rfl
theorem su_swap (l m : List Nat) (f : Nat → Nat → Int) : su l (fun x => su m (fun y => f x y)) = su m (fun y => su l (fun x => f x y)) := by
  induction l with
  | nil => simp [su_zero]
  | cons x r ih => simp only [su_cons, ih, su_add]
theorem rn_succ (i : Nat) : rn (i + 1) = rn i ++ [i + 1] := by simp [rn, List.range_succ]
theorem su_app (l m : List Nat) (f : Nat → Int) : su (l ++ m) f = su l f + su m f := by simp [su]
theorem su_one {n a : Nat} (f : Nat → Int) : su (rn n) (fun d => if d = a then f d else 0) = if 1 ≤ a ∧ a ≤ n then f a else 0 := by
  induction n with
  | zero => rw [if_neg (by omega)]; rfl
  | succ n ih =>
    rw [rn_succ, su_app, ih]
    simp only [su_cons, su_nil]
    by_cases h : n + 1 = a
    · subst h
      rw [if_neg (by omega), if_pos rfl, if_pos (by omega)]; omega
    · rw [if_neg h]
      by_cases h2 : 1 ≤ a ∧ a ≤ n
      · rw [if_pos h2, if_pos (by omega)]; omega
      · rw [if_neg h2, if_neg (by omega)]; rfl
def sg (p n : Nat) : Int := su (rn n) fun d => if n % d = 0 then (d : Int) ^ p else 0
theorem su_filter (l : List Nat) (q : Nat → Bool) (f : Nat → Int) : su (l.filter q) f = su l fun d => if q d = true then f d else 0 := by
  induction l with
  | nil => rfl
  | cons x r ih =>
    rw [List.filter_cons]
    by_cases h : q x = true
    · rw [if_pos h]; simp only [su_cons, ih, if_pos h]
    · rw [if_neg h]; simp only [su_cons, ih, if_neg h]; omega
def lo (n low d : Nat) : Bool := decide (d < low) || decide (n / d < low)
def fs (p n low : Nat) : Int := su (rn n) fun d => if n % d = 0 ∧ lo n low d = true then (d : Int) ^ p else 0
theorem fs_one {p n : Nat} : fs p n 1 = 0 := by
  unfold fs
  rw [su_congr (g := fun _ => 0), su_zero]
  intro d hd
  obtain ⟨h1, h2⟩ := rn_mem.mp hd
  rw [if_neg]
  rintro ⟨h3, h4⟩
  simp only [lo, Bool.or_eq_true, decide_eq_true_eq] at h4
  have := Nat.div_pos h2 h1
  omega
theorem fs_all {p n low : Nat} (h : n < low * low) : fs p n low = sg p n := by
  unfold fs sg
  refine su_congr fun d hd => ?_
  obtain ⟨h1, h2⟩ := rn_mem.mp hd
  by_cases h3 : n % d = 0
  · have : lo n low d = true := by
      simp only [lo, Bool.or_eq_true, decide_eq_true_eq]
      refine Decidable.or_iff_not_imp_left.mpr fun h4 => ?_
      refine (Nat.div_lt_iff_lt_mul h1).mpr ?_
      exact Nat.lt_of_lt_of_le h (Nat.mul_le_mul_left low (by omega))
    rw [if_pos ⟨h3, this⟩, if_pos h3]
  · rw [if_neg (fun z => h3 z.1), if_neg h3]
theorem fs_step {p n low : Nat} (h0 : 1 ≤ low) (h : low * low ≤ n) : fs p n (low + 1) = fs p n low + if n % low = 0 then (low : Int) ^ p + (if low * low < n then ((n / low : Nat) : Int) ^ p else 0) else 0 := by
  have hln : low ≤ n := Nat.le_trans (Nat.le_mul_of_pos_left low h0) h
  have key : fs p n (low + 1) = fs p n low + su (rn n) fun d => if n % d = 0 ∧ lo n low d = false ∧ lo n (low + 1) d = true then (d : Int) ^ p else 0 := by
    unfold fs
    rw [← su_add]
    refine su_congr fun d hd => ?_
    by_cases h3 : n % d = 0
    · cases e1 : lo n low d
      · cases e2 : lo n (low + 1) d <;> simp [h3, e2]
      · have : lo n (low + 1) d = true := by
          simp only [lo, Bool.or_eq_true, decide_eq_true_eq] at e1 ⊢
          omega
        simp [h3, this]
    · simp [h3]
  rw [key]
  congr 1
  have new : ∀ d ∈ rn n, (n % d = 0 ∧ lo n low d = false ∧ lo n (low + 1) d = true) ↔ n % low = 0 ∧ (d = low ∨ d = n / low) := by
    intro d hd
    obtain ⟨h1, h2⟩ := rn_mem.mp hd
    simp only [lo, Bool.or_eq_false_iff, Bool.or_eq_true, decide_eq_true_eq, decide_eq_false_iff_not]
    constructor
    · rintro ⟨g1, ⟨g2, g3⟩, g4⟩
      have hdv := Nat.dvd_of_mod_eq_zero g1
      have hmul : d * (n / d) = n := Nat.mul_div_cancel' hdv
      rcases g4 with g4 | g4
      · have e : d = low := by omega
        subst e
        exact ⟨g1, .inl rfl⟩
      · have e : n / d = low := by omega
        have e2 : low ∣ n := ⟨d, by rw [← e, Nat.mul_comm]; exact hmul.symm⟩
        refine ⟨Nat.mod_eq_zero_of_dvd e2, .inr ?_⟩
        rw [← e]
        exact (Nat.div_eq_of_eq_mul_left (by rw [e]; omega) (by rw [hmul])).symm
    · rintro ⟨g1, g2⟩
      have hdv := Nat.dvd_of_mod_eq_zero g1
      have hmul : low * (n / low) = n := Nat.mul_div_cancel' hdv
      have hge : low ≤ n / low := (Nat.le_div_iff_mul_le h0).mpr h
      rcases g2 with rfl | rfl
      · exact ⟨g1, ⟨by omega, by omega⟩, .inl (by omega)⟩
      · have e : n / (n / low) = low := Nat.div_eq_of_eq_mul_left (by omega) hmul.symm
        refine ⟨Nat.mod_eq_zero_of_dvd ⟨low, by rw [Nat.mul_comm]; exact hmul.symm⟩, ⟨by omega, by omega⟩, .inr (by omega)⟩
  rw [su_congr (g := fun d => if n % low = 0 ∧ (d = low ∨ d = n / low) then (d : Int) ^ p else 0) fun d hd => by simp only [new d hd]]
  by_cases g1 : n % low = 0
  · rw [if_pos g1]
    have hmul : low * (n / low) = n := Nat.mul_div_cancel' (Nat.dvd_of_mod_eq_zero g1)
    have hge : low ≤ n / low := (Nat.le_div_iff_mul_le h0).mpr h
    have hle : n / low ≤ n := Nat.div_le_self _ _
    by_cases g2 : low * low < n
    · have hne : low ≠ n / low := fun e => by rw [← e] at hmul; omega
      rw [if_pos g2]
      rw [su_congr (g := fun d => (if d = low then (d : Int) ^ p else 0) + (if d = n / low then (d : Int) ^ p else 0)) fun d hd => by
        by_cases e1 : d = low
        · subst e1
          simp [g1, hne]
        · by_cases e2 : d = n / low
          · subst e2
            simp [g1, e1]
          · simp [e1, e2]]
      rw [su_add, su_one, su_one, if_pos (by omega), if_pos (by omega)]
    · have e : n / low = low := by
        have h5 : n / low ≤ low := by
          have : low * (n / low) ≤ low * low := by omega
          exact Nat.le_of_mul_le_mul_left this h0
        omega
      rw [if_neg g2]
      rw [su_congr (g := fun d => if d = low then (d : Int) ^ p else 0) fun d hd => by simp [g1, e]]
      rw [su_one, if_pos (by omega)]; omega
  · rw [if_neg g1]
    rw [su_congr (g := fun _ => 0) fun d hd => by simp [g1], su_zero]
theorem pair_iff {a b k d e : Nat} (hab : Nat.gcd a b = 1) (ha : 0 < a) (hb : 0 < b) (hd : a % d = 0) (he : b % e = 0) (hk : k = d * e) : d = Nat.gcd k a ∧ e = Nat.gcd k b := by
  have da := Nat.dvd_of_mod_eq_zero hd
  have eb := Nat.dvd_of_mod_eq_zero he
  have c1 : Nat.Coprime e a := Nat.Coprime.coprime_dvd_left eb (Nat.Coprime.symm hab)
  have c2 : Nat.Coprime d b := Nat.Coprime.coprime_dvd_left da hab
  subst hk
  refine ⟨?_, ?_⟩
  · rw [Nat.Coprime.gcd_mul_right_cancel d c1]
    exact (Nat.gcd_eq_left da).symm
  · rw [Nat.Coprime.gcd_mul_left_cancel e c2]
    exact (Nat.gcd_eq_left eb).symm
theorem sg_mul {p a b : Nat} (hab : Nat.gcd a b = 1) (ha : 0 < a) (hb : 0 < b) : sg p (a * b) = sg p a * sg p b := by
  have inner : ∀ k ∈ rn (a * b), (if (a * b) % k = 0 then (k : Int) ^ p else 0) = su (rn a) fun d => su (rn b) fun e => if (a % d = 0 ∧ b % e = 0) ∧ k = d * e then (k : Int) ^ p else 0 := by
    intro k hk
    obtain ⟨k1, k2⟩ := rn_mem.mp hk
    have one : ∀ d ∈ rn a, (su (rn b) fun e => if (a % d = 0 ∧ b % e = 0) ∧ k = d * e then (k : Int) ^ p else 0) = if d = Nat.gcd k a then (if (a * b) % k = 0 then (k : Int) ^ p else 0) else 0 := by
      intro d hd
      obtain ⟨d1, d2⟩ := rn_mem.mp hd
      rw [su_congr (g := fun e => if e = Nat.gcd k b then (if d = Nat.gcd k a ∧ (a * b) % k = 0 then (k : Int) ^ p else 0) else 0)]
      · rw [su_one, if_pos ⟨Nat.gcd_pos_of_pos_right k hb, Nat.gcd_le_right k hb⟩]
        by_cases g1 : d = Nat.gcd k a
        · by_cases g2 : (a * b) % k = 0 <;> simp [g1, g2]
        · simp [g1]
      · intro e he
        by_cases g : (a % d = 0 ∧ b % e = 0) ∧ k = d * e
        · obtain ⟨q1, q2⟩ := pair_iff hab ha hb g.1.1 g.1.2 g.2
          have g3 : (a * b) % k = 0 := by
            rw [g.2]
            exact Nat.mod_eq_zero_of_dvd (Nat.mul_dvd_mul (Nat.dvd_of_mod_eq_zero g.1.1) (Nat.dvd_of_mod_eq_zero g.1.2))
          rw [if_pos g, if_pos q2, if_pos ⟨q1, g3⟩]
        · rw [if_neg g]
          by_cases q2 : e = Nat.gcd k b
          · rw [if_pos q2, if_neg]
            rintro ⟨q1, q3⟩
            refine g ⟨⟨?_, ?_⟩, ?_⟩
            · rw [q1]; exact Nat.mod_eq_zero_of_dvd (Nat.gcd_dvd_right k a)
            · rw [q2]; exact Nat.mod_eq_zero_of_dvd (Nat.gcd_dvd_right k b)
            · rw [q1, q2, ← Nat.Coprime.gcd_mul k hab]
              exact (Nat.gcd_eq_left (Nat.dvd_of_mod_eq_zero q3)).symm
          · rw [if_neg q2]
    rw [su_congr one, su_one]
    exact (if_pos ⟨Nat.gcd_pos_of_pos_right k ha, Nat.gcd_le_right k ha⟩).symm
  unfold sg
  rw [su_congr inner, su_swap]
  rw [su_congr (g := fun d => (if a % d = 0 then (d : Int) ^ p else 0) * sg p b)]
  · unfold sg
    rw [su_congr (g := fun d => (su (rn b) fun d => if b % d = 0 then (d : Int) ^ p else 0) * (if a % d = 0 then (d : Int) ^ p else 0)) fun d _ => Int.mul_comm _ _, su_mul, Int.mul_comm]
  · intro d hd
    obtain ⟨d1, d2⟩ := rn_mem.mp hd
    rw [su_swap]
    unfold sg
    rw [← su_mul]
    refine su_congr fun e he => ?_
    obtain ⟨e1, e2⟩ := rn_mem.mp he
    by_cases g : a % d = 0 ∧ b % e = 0
    · rw [su_congr (g := fun k => if k = d * e then (k : Int) ^ p else 0) fun k _ => by simp [g.1, g.2]]
      rw [su_one, if_pos ⟨Nat.mul_pos d1 e1, Nat.mul_le_mul d2 e2⟩, if_pos g.1, if_pos g.2, Int.natCast_mul, Int.mul_pow]
    · rw [su_congr (g := fun _ => 0) fun k _ => by rw [if_neg fun z => g z.1], su_zero]
      by_cases g1 : a % d = 0
      · have : ¬ b % e = 0 := fun z => g ⟨g1, z⟩
        simp [this]
      · simp [g1]
theorem ps_log {n low : Nat} (h : n ≤ 10000) (h2 : low * low ≤ n) : low ≤ 100 := by
  rcases Nat.lt_or_ge 100 low with q | q
  · have : 101 * 101 ≤ low * low := Nat.mul_le_mul q q
    omega
  · exact q
/-! the numbers B, as whole numbers over one common one -/
def wy (m : Int) : Nat → Int
  | 0 => 1
  | s + 1 => (wy m s * (m - s)).fdiv (s + 1)
def bL : Int := 117288381359406970983270
def ba : List Int := [117288381359406970983270, -58644190679703485491635, 19548063559901161830545, 0, -3909612711980232366109, 0, 2792580508557308832935, 0, -3909612711980232366109, 0, 8885483436318709922975, 0, -29687278944816929285509, 0, 136836444919308132813815, 0, -831827598778382380483309, 0, 6447480482572814030229455, 0, -62060125931961850334423509, 0, 726264105946166152143673895, 0, -10154857745376400364660802109, 0, 167196601078381306956319931135, 0, -3201765335919225172319660547109, 0, 70558446956583857937898967065175, 0, -1772968208439921418506649377818509, 0, 50388806092943619857172626414420015, 0, -1608217844763097977263566777424008309, 0, 57275707257898363866531649321536619655, 0, -2263264556789521123807814394864273740509, 0, 98720815151383560847395902019358601568095, 0, -4731187154922086023514472442331162912871109, 0, 248073707230031824271815688716185260902449335, 0, -14176208608958377565787153081487291535638488109, 0, 879764519439969048939855863579482941685333727375, 0, -59099012755194024999880431893589136769594730911509, 0, 4284401066943885675566805652970005387196639671146215, 0, -334257452221961966008565390215914584966870907637693309, 0, 27991373618881717075294980054448641465401013587915729855, 0, -2509965409553402879582773192133475171882497240453229617509]
def bak (k : Nat) : Int := ba.getD k 0
def isum (m : Nat) : Nat → Int
  | 0 => 0
  | k + 1 => isum m k + wy m k * bak k
def jsum (h : Nat) : Nat → Int
  | 0 => 0
  | k + 1 => jsum h k + wy (h + 1 : Nat) k * 9 ^ (h + 1 - k) * bak k
def tens (h : Nat) : Int := ((List.range 9).map fun (j : Nat) => (j : Int) ^ h).sum
theorem k1 : ∀ n : Fin 60, isum (n.1 + 2) (n.1 + 1) * (-1) = (n.1 + 2 : Nat) * bak (n.1 + 1) := by decide +kernel
theorem k2 : ∀ m : Fin 62, ∀ k : Fin 62, k.1 ≤ m.1 → 0 ≤ wy m.1 k.1 ∧ wy m.1 k.1 < 2 ^ 62 := by decide +kernel
theorem k4 : ∀ h : Fin 61, isum (h.1 + 1) (h.1 + 1) = if h.1 = 0 then bL else 0 := by decide +kernel
theorem k5 : ∀ h : Fin 61, jsum h.1 (h.1 + 1) = (h.1 + 1 : Nat) * bL * tens h.1 := by decide +kernel
theorem k6 : ∀ m : Fin 62, ∀ k : Fin 62, k.1 ≤ m.1 → (isum m.1 k.1).natAbs < 2 ^ 400 := by decide +kernel
theorem k7 : ∀ m : Fin 61, ∀ k : Fin 62, k.1 ≤ m.1 + 1 → (jsum m.1 k.1).natAbs < 2 ^ 700 := by decide +kernel
theorem k8 : ∀ k : Fin 61, (bak k.1).natAbs < 2 ^ 400 := by decide +kernel
theorem k9 : ∀ k : Fin 61, 2 < k.1 → ((bak k.1 = 0) ↔ k.1 % 2 = 1) := by decide +kernel
theorem k10 : ∀ k : Fin 61, 1 < k.1 → k.1 % 2 = 0 → ((0 < bak k.1) ↔ k.1 % 4 = 2) := by decide +kernel
theorem bL_pos : 0 < bL := by decide
theorem bL_sz : bL.natAbs < 2 ^ 400 := by decide
def Bn (k : Nat) : Rat := Rat.divInt (bak k) bL
def ps (m k : Nat) : Rat := Rat.divInt (isum m k) bL
theorem bL_ne : bL ≠ 0 := by decide
theorem ofInt_div (w : Int) : Rat.ofInt w = Rat.divInt w 1 := by
  rw [Rat.divInt_eq_div]
  show ((w : Rat)) = (w : Rat) / ((1 : Int) : Rat)
  rw [Rat.div_def]
  have : (((1 : Int) : Rat))⁻¹ = 1 := by decide +kernel
  rw [this, Rat.mul_one]
theorem rep_mul (w a L : Int) : Rat.ofInt w * Rat.divInt a L = Rat.divInt (w * a) L := by
  rw [ofInt_div, Rat.divInt_mul_divInt, Int.one_mul]
theorem rep_add {L : Int} (hL : L ≠ 0) (a b : Int) : Rat.divInt a L + Rat.divInt b L = Rat.divInt (a + b) L := by
  rw [Rat.divInt_add_divInt _ _ hL hL, ← Int.add_mul, Rat.divInt_mul_right hL]
theorem ps_succ (m k : Nat) : ps m (k + 1) = ps m k + Rat.ofInt (wy m k) * Bn k := by
  unfold ps Bn
  rw [rep_mul, rep_add bL_ne, isum]
theorem ps_zero (m : Nat) : ps m 0 = 0 := by
  unfold ps
  rw [isum, Rat.zero_divInt]
theorem Bn_sz {k : Nat} (h : k ≤ 60) : Sz 400 (Bn k) := divInt_sz bL_ne (k8 ⟨k, by omega⟩) bL_sz
theorem ps_sz {m k : Nat} (h : m ≤ 61) (hk : k ≤ m) : Sz 400 (ps m k) := divInt_sz bL_ne (k6 ⟨m, by omega⟩ ⟨k, by omega⟩ hk) bL_sz
theorem wy_b {m k : Nat} (h : m ≤ 61) (hk : k ≤ m) : 0 ≤ wy m k ∧ wy m k < 2 ^ 62 := k2 ⟨m, by omega⟩ ⟨k, by omega⟩ hk
theorem wy_sz {m k : Nat} (h : m ≤ 61) (hk : k ≤ m) : Sz 62 (Rat.ofInt (wy m k)) := by
  obtain ⟨h1, h2⟩ := wy_b h hk
  exact sz_ofInt (by omega) (by decide)
theorem Bn_next {k : Nat} (h : k + 1 ≤ 60) : ps (k + 2) (k + 1) * Rat.divInt (-1) ((k + 2 : Nat) : Int) = Bn (k + 1) := by
  unfold ps Bn
  rw [Rat.divInt_mul_divInt, k1 ⟨k, by omega⟩]
  exact (Rat.divInt_eq_divInt_iff (Int.mul_ne_zero bL_ne (by omega)) bL_ne).mpr (by
    rw [Int.mul_comm ((k + 2 : Nat) : Int), Int.mul_assoc, Int.mul_comm ((k + 2 : Nat) : Int)])
theorem Bn_zero : Bn 0 = 1 := by decide +kernel
theorem Bn_eq0 {k : Nat} : Bn k = 0 ↔ bak k = 0 := by
  unfold Bn
  have z : (0 : Rat) = Rat.divInt 0 1 := by decide +kernel
  rw [z, Rat.divInt_eq_divInt_iff bL_ne (by decide), Int.mul_one, Int.zero_mul]
theorem Bn_pos {k : Nat} : 0 < (Bn k).num ↔ 0 < bak k := by
  unfold Bn
  rw [Rat.num_divInt, Int.sign_eq_one_of_pos bL_pos, Int.one_mul]
  have hg : (0 : Int) < (bL.gcd (bak k) : Nat) := by
    have := Int.gcd_pos_of_ne_zero_left (bak k) bL_ne
    omega
  have hd : ((bL.gcd (bak k) : Nat) : Int) ∣ bak k := Int.gcd_dvd_right bL (bak k)
  generalize bL.gcd (bak k) = g at *
  obtain ⟨c, hc⟩ := hd
  rw [hc, Int.mul_ediv_cancel_left _ (by omega)]
  constructor
  · exact fun h => Int.mul_pos hg h
  · intro h
    rcases Int.lt_or_le 0 c with q | q
    · exact q
    · have := Int.mul_nonpos_of_nonneg_of_nonpos (Int.le_of_lt hg) q
      omega
theorem ways_at {n m s : Nat} (hm : m ≤ 61) (hs : s ≤ m) : call P C (n + 1) n_ways [.int m, .int s] = .ok (.int (wy m s)) := by
  have hr : rngOk (s : Int) := ⟨by omega, by omega⟩
  have lp : ∃ t, exS (call P C n) C lp_ways_0 [.sh (.int m), .sh (.int s), .sh (.int 1), .un] = .nx [.sh (.int m), .sh (.int s), .sh (.int (wy m s)), t] := by
    unfold lp_ways_0
    rw [exS_for]
    simp only [evi_rng, evs_cons, evs_nil, ev_var, List.getElem?_cons_succ, List.getElem?_cons_zero, R.bind_ok, rng1 hr, Out.ofR_ok, Int.toNat_natCast]
    obtain ⟨ρ', h1, t, ht, h2⟩ := forL_rng (st := fun x ρ' => setT (.var 3) x ρ') (b := fun ρ' => exSs (call P C n) C lb_ways_0 ρ') (lo := 0) (n := s)
      (fun i ρ => ∃ t, t ≠ Sl.lk ∧ ρ = [.sh (.int m), .sh (.int s), .sh (.int (wy m i)), t]) (ρ := [.sh (.int m), .sh (.int s), .sh (.int 1), .un]) ⟨.un, by simp, rfl⟩ (fun i ρ hi ⟨t, ht, e⟩ => by
        subst e
        have hb := wy_b hm (show i ≤ m by omega)
        have mm : mulOk (wy m i) ((m : Int) - (i : Nat)) := mulOk_l (by omega)
        have md : divOk ((i : Nat) + 1 : Int) := divOk_s (by omega) (by omega)
        refine ⟨[.sh (.int m), .sh (.int s), .sh (.int (wy m i)), .sh (.int (i : Nat))], [.sh (.int m), .sh (.int s), .sh (.int (wy m (i + 1))), .sh (.int (i : Nat))], by simp [stE_set, ht], .inl ?_, ⟨_, nl_sh, rfl⟩⟩
        simp [lb_ways_0, stE_set, bin_mul mm, bin_fdv md, wy])
    exact ⟨t, by rw [h1, h2]⟩
  obtain ⟨t, hl⟩ := lp
  refine call_run rfl rfl (ρ := [.sh (.int m), .sh (.int s), .un, .un]) rfl ?_
  simp [fd_ways, stE_set, hl]
theorem l_ways_at {n m s : Nat} (hm : m ≤ 61) (hs : s ≤ m) : call P C (n + 1) n_l_ways [.int m, .int s] = .ok (.int (wy m s)) := by
  have hr : rngOk (s : Int) := ⟨by omega, by omega⟩
  have lp : ∃ t, exS (call P C n) C lp_l_ways_0 [.sh (.int m), .sh (.int s), .sh (.int 1), .un] = .nx [.sh (.int m), .sh (.int s), .sh (.int (wy m s)), t] := by
    unfold lp_l_ways_0
    rw [exS_for]
    simp only [evi_rng, evs_cons, evs_nil, ev_var, List.getElem?_cons_succ, List.getElem?_cons_zero, R.bind_ok, rng1 hr, Out.ofR_ok, Int.toNat_natCast]
    obtain ⟨ρ', h1, t, ht, h2⟩ := forL_rng (st := fun x ρ' => setT (.var 3) x ρ') (b := fun ρ' => exSs (call P C n) C lb_l_ways_0 ρ') (lo := 0) (n := s)
      (fun i ρ => ∃ t, t ≠ Sl.lk ∧ ρ = [.sh (.int m), .sh (.int s), .sh (.int (wy m i)), t]) (ρ := [.sh (.int m), .sh (.int s), .sh (.int 1), .un]) ⟨.un, by simp, rfl⟩ (fun i ρ hi ⟨t, ht, e⟩ => by
        subst e
        have hb := wy_b hm (show i ≤ m by omega)
        have mm : mulOk (wy m i) ((m : Int) - (i : Nat)) := mulOk_l (by omega)
        have md : divOk ((i : Nat) + 1 : Int) := divOk_s (by omega) (by omega)
        refine ⟨[.sh (.int m), .sh (.int s), .sh (.int (wy m i)), .sh (.int (i : Nat))], [.sh (.int m), .sh (.int s), .sh (.int (wy m (i + 1))), .sh (.int (i : Nat))], by simp [stE_set, ht], .inl ?_, ⟨_, nl_sh, rfl⟩⟩
        simp [lb_l_ways_0, stE_set, bin_mul mm, bin_fdv md, wy])
    exact ⟨t, by rw [h1, h2]⟩
  obtain ⟨t, hl⟩ := lp
  refine call_run rfl rfl (ρ := [.sh (.int m), .sh (.int s), .un, .un]) rfl ?_
  simp [fd_l_ways, stE_set, hl]
def Bl (i : Nat) : List D := (List.range i).map fun k => frD (Bn k)
theorem Bl_at {i k : Nat} (h : k < i) : (Bl i)[k]? = some (frD (Bn k)) := by simp [Bl, h]
theorem Bl_len (i : Nat) : (Bl i).length = i := by simp [Bl]
/-! rows of sums over divisors -/
def whF (lead : Int) (p : Nat) (i : Nat) : Int := if i = 0 then 1 else lead * sg p i
theorem su_le {l : List Nat} {f : Nat → Int} {B : Nat} (h : ∀ x ∈ l, (f x).natAbs ≤ B) : (su l f).natAbs ≤ l.length * B := by
  induction l with
  | nil => simp [su]
  | cons x l ih =>
    have h1 := ih fun y hy => h y (List.mem_cons_of_mem _ hy)
    have h2 := h x List.mem_cons_self
    have e : su (x :: l) f = f x + su l f := by simp [su]
    have h3 := Int.natAbs_add_le (f x) (su l f)
    rw [e, List.length_cons, Nat.succ_mul]
    omega
theorem sg_lt {p n : Nat} (h2 : n < 2 ^ 14) : (sg p n).natAbs < 2 ^ (14 * p + 15) := by
  unfold sg
  have h := su_le (l := rn n) (f := fun d => if n % d = 0 then (d : Int) ^ p else 0) (B := 2 ^ (14 * p)) fun x hx => by
    split
    · have hx := (rn_mem.mp hx).2
      rw [Int.natAbs_pow, Int.natAbs_natCast, Nat.pow_mul]
      exact Nat.pow_le_pow_left (by omega) p
    · simp
  refine Nat.lt_of_le_of_lt h ?_
  have e : (rn n).length = n := by simp [rn]
  rw [e, Nat.add_comm, Nat.pow_add]
  have := Nat.two_pow_pos (14 * p)
  refine Nat.mul_lt_mul_of_pos_right ?_ this
  have : (2 : Nat) ^ 14 = 16384 := by decide
  have : (2 : Nat) ^ 15 = 32768 := by decide
  omega
theorem tab_cons {α : Type} {m : Nat} {f : Nat → α} : tab (m + 1) f = f 0 :: tab m fun i => f (i + 1) := by
  simp [tab, List.range_succ_eq_map, Function.comp_def]
theorem tab_cons' {α : Type} {m : Nat} {f : Nat → α} (hm : 1 ≤ m) : tab m f = f 0 :: tab (m - 1) fun i => f (i + 1) := by
  obtain ⟨k, rfl⟩ : ∃ k, m = k + 1 := ⟨m - 1, by omega⟩
  exact tab_cons
theorem bin_catT {a b : List D} (h : a.length + b.length ≤ LL) : Rv.bin .add (.tup a) (.tup b) = .ok (.tup (a ++ b)) := if_pos h
theorem divInt_one (t : Int) : Rat.divInt t 1 = (t : Rat) := divInt_val (by decide) (by show (t : Rat) = (t : Rat) * ((1 : Int) : Rat); rw [show ((1 : Int) : Rat) = 1 from rfl, Rat.mul_one])
theorem rng1up {m : Nat} (hm : 1 ≤ m) (hm2 : m ≤ 100000) : rngV [.int 1, .int (m : Int)] = .ok (tab (m - 1) fun i => .int ((i + 1 : Nat) : Int)) := by
  have hr1 : rngOk 1 := ⟨by decide, by decide⟩
  have hr : rngOk (m : Int) := ⟨by omega, by omega⟩
  rw [rng2 hr1 hr]
  have et : ((m : Int) - 1).toNat = m - 1 := by omega
  rw [et]
  unfold rngL tab
  congr 1
  refine List.map_congr_left fun i _ => ?_
  congr 1
  omega
def ldW (w : Nat) : Rat := ((-2 * (w : Int) : Int) : Rat) / Bn w
def wtF (w : Nat) (i : Nat) : Rat := if i = 0 then 1 else ldW w * ((sg (w - 1) i : Int) : Rat)
theorem Bn_even {w : Nat} (h : w ≤ 60) (h2 : 2 ≤ w) (he : w % 2 = 0) : Bn w ≠ 0 := fun z => by
  have z := Bn_eq0.mp z
  by_cases c : w = 2
  · subst c; revert z; decide +kernel
  · have := (k9 ⟨w, by omega⟩ (show 2 < w by omega)).mp z
    have : w % 2 = 1 := this
    omega
theorem ldW_sz {w : Nat} (h : w ≤ 60) (h2 : 2 ≤ w) (he : w % 2 = 0) : S2 820 410 (ldW w) := by
  have hb := Bn_sz h
  have h0 := Bn_even h h2 he
  have hi := s2_int (i := -2 * (w : Int)) (k := 8) (by omega)
  refine ⟨?_, ?_⟩
  · exact Nat.lt_of_lt_of_le (num_div_lt hi hb.s2 h0) (Nat.pow_le_pow_right (by decide) (by decide))
  · have := den_div_dvd (p := ((-2 * (w : Int) : Int) : Rat)) (q := Bn w) (B := 1) (by decide) (Nat.dvd_refl 1) h0
    have hn := num_ne h0
    rw [Nat.one_mul] at this
    exact Nat.lt_of_le_of_lt (Nat.le_of_dvd (by omega) this) (Nat.lt_of_lt_of_le hb.1 (Nat.pow_le_pow_right (by decide) (by decide)))
/-! the law's own sums over divisors -/
theorem rng3_by {d m : Nat} (hd : 1 ≤ d) (hdm : d < m) (hm2 : m ≤ 100000) : rngV [.int (d : Int), .int (m : Int), .int (d : Int)] = .ok (tab ((m - 1) / d) fun k => .int (((k + 1) * d : Nat) : Int)) := by
  have hb := Nat.div_le_self (m - 1) d
  obtain ⟨x, hx⟩ : ∃ x, x = (m - 1) / d := ⟨_, rfl⟩
  rw [← hx] at hb ⊢
  have hx1 : x = (m - 1 - d) / d + 1 := by
    rw [hx]
    have : m - 1 = m - 1 - d + d := by omega
    rw [this, Nat.add_div_right _ (by omega), Nat.add_sub_cancel]
  have es : Builtin.Range.rangeSize (d : Int) (m : Int) (d : Int) = ((x : Nat) : Int) := by
    unfold Builtin.Range.rangeSize
    rw [if_pos (by omega), if_pos (by omega)]
    have : ((m : Int) - (d : Int) - 1) = ((m - 1 - d : Nat) : Int) := by omega
    rw [this]
    obtain ⟨y, hy⟩ : ∃ y, y = (m - 1 - d) / d := ⟨_, rfl⟩
    have : ((m - 1 - d : Nat) : Int) / (d : Int) = ((y : Nat) : Int) := by rw [hy]; rfl
    rw [this, hx1, ← hy]; omega
  have ok : rng3Ok (d : Int) (m : Int) (d : Int) := by
    unfold rng3Ok RgC
    rw [es, Int.toNat_natCast]
    refine ⟨by omega, by omega, ?_, rfl⟩
    unfold Builtin.Range.small
    rw [es]
    unfold Builtin.Range.rangeFitsLong
    rw [if_pos (show (d : Int) > 0 by omega)]
    simp only [Bool.and_eq_true, Bool.or_eq_true, decide_eq_true_eq, beq_iff_eq]
    omega
  simp only [rngV, if_pos ok, es]
  congr 1
  unfold rngC tab
  rw [Int.toNat_natCast]
  refine List.map_congr_left fun k _ => ?_
  rw [Nat.succ_mul]
  congr 1
  simp
  omega
def sgTo (p D n : Nat) : Int := if n = 0 then 0 else su (rn D) fun e => if n % e = 0 then (e : Int) ^ p else 0
theorem sgTo_all {p D n : Nat} (h : n ≤ D) (h0 : 1 ≤ n) : sgTo p D n = sg p n := by
  unfold sgTo
  rw [if_neg (by omega)]
  obtain ⟨k, rfl⟩ : ∃ k, D = n + k := ⟨D - n, by omega⟩
  induction k with
  | zero => rfl
  | succ k ih =>
    rw [← Nat.add_assoc, rn_succ, su_app, ih (by omega)]
    have : n % (n + k + 1) ≠ 0 := by rw [Nat.mod_eq_of_lt (by omega)]; omega
    simp [su, this]
theorem cut1_tab {m : Nat} {f : Nat → D} (hm : 1 ≤ m) : Rv.cutD (tab m f) (some 1) none = tab (m - 1) fun i => f (i + 1) := by
  rw [cut_from (by decide)]
  rw [tab_cons' hm]
  rfl
/-! the law's own numbers B -/
theorem l_frac_at' {n : Nat} {t b : Int} (hb : b ≠ 0) (h : b.natAbs < 2 ^ 9000) : call P C (n + 2) n_l_frac [.int t, .int b] = .ok (frD (Rat.divInt t b)) := by
  rcases Int.lt_or_gt_of_ne hb with c | c
  · refine call_run rfl rfl (ρ := [.sh (.int t), .sh (.int b), .un]) rfl ?_
    have hg : (Int.gcd t b : Int) ≠ 0 := by
      have := Int.gcd_pos_of_ne_zero_right t hb
      omega
    have ok : divOk ((Int.gcd t b : Nat) : Int) := divOk_of hg (by rw [Int.natAbs_natCast]; exact gcd_lt hb h)
    have e : Rat.divInt t b = Rat.divInt (-t) (-b) := (Rat.neg_divInt_neg t b).symm
    obtain ⟨p1, p2⟩ := divInt_parts (t := -t) (b := -b) (show -b ≠ 0 by omega)
    rw [if_neg (by omega), Int.neg_gcd, Int.gcd_neg] at p1 p2
    have nb : ¬ 0 < b := by omega
    simp [fd_l_frac, stE, l_gcd_at, nb, bin_fdv ok, LL]
    rw [e, frD, p1, p2]
  · exact l_frac_at c h
/-! dicts whose keys are numbers -/
def encK (x : Nat × Int) : Key × D := (.inl (x.1 : Int), .int x.2)
theorem put_enc (kv : List (Nat × Int)) (s : Nat) (p : Int) : ∃ kv' : List (Nat × Int), putA (kv.map encK) (.inl (s : Int)) (.int p) = kv'.map encK ∧ kv'.length ≤ kv.length + 1 ∧ ∀ x ∈ kv', x ∈ kv ∨ x = (s, p) := by
  unfold putA
  split
  · refine ⟨kv.map fun x => if x.1 = s then (s, p) else x, ?_, by simp, fun x hx => ?_⟩
    · rw [List.map_map, List.map_map]
      refine List.map_congr_left fun x _ => ?_
      simp only [Function.comp]
      by_cases c : x.1 = s
      · rw [if_pos c, if_pos (by simp [encK, c])]; simp [encK, c]
      · rw [if_neg c, if_neg]
        intro z
        have z : (Sum.inl (x.1 : Int) : Key) = .inl (s : Int) := z
        have := Sum.inl.inj z
        omega
    · obtain ⟨y, hy, rfl⟩ := List.mem_map.mp hx
      split
      · exact .inr rfl
      · exact .inl hy
  · exact ⟨kv ++ [(s, p)], by simp [encK], by simp, fun x hx => by simpa using hx⟩
theorem lk_enc {kv : List (Nat × Int)} {i : Int} (h : i ∈ kv.map fun x => (x.1 : Int)) : ∃ x ∈ kv, (x.1 : Int) = i ∧ lkA (kv.map encK) (.inl i) = some (.int x.2) := by
  induction kv with
  | nil => cases h
  | cons a l ih =>
    by_cases c : (a.1 : Int) = i
    · exact ⟨a, List.mem_cons_self, c, by simp [lkA, encK, c]⟩
    · have h2 : i ∈ l.map fun x => (x.1 : Int) := by
        rcases List.mem_cons.mp h with e | e
        · exact absurd e.symm c
        · exact e
      obtain ⟨x, h3, h4, h5⟩ := ih h2
      refine ⟨x, List.mem_cons_of_mem _ h3, h4, ?_⟩
      rw [← h5]
      simp [lkA, encK, List.find?_cons, c]
theorem keys_enc : ∀ kv : List (Nat × Int), intKs (kv.map encK) = some (kv.map fun x => (x.1 : Int))
  | [] => rfl
  | a :: l => by simp only [List.map_cons, encK, intKs]; rw [keys_enc l]; rfl
theorem ix_two {a b : Int} (w : Int) : ∃ z, idxV (.lst [.int a, .int b]) (.int (w % 2)) = .ok (.int z) ∧ (z = a ∨ z = b) := by
  rcases Int.emod_two_eq w with e | e
  · exact ⟨a, by rw [e]; rfl, .inl rfl⟩
  · exact ⟨b, by rw [e]; rfl, .inr rfl⟩
theorem set_lsF {m i : Nat} {f : Nat → Int} {z : Int} : (tab m fun j => D.int (f j)).set i (.int z) = tab m fun j => D.int (if j = i then z else f j) := by
  rw [tab_set]
  exact tab_congr fun j _ => by split <;> rfl
theorem ixN_lsF {m : Nat} {f : Nat → Int} {i : Nat} (h : i < m) : idxV (.lst (tab m fun j => D.int (f j))) (.int (i : Int)) = .ok (.int (f i)) := by
  have := idx_lsF (m := m) (p := f) (i := (i : Int)) (by omega) (by omega)
  rw [Int.toNat_natCast] at this
  exact this
theorem ixV_nat {m i : Nat} (h : i < m) : ixV m (.int (i : Int)) = .ok i := by
  have := ixV_at (n := m) (i := (i : Int)) (by omega) (by omega)
  rw [Int.toNat_natCast] at this
  exact this
theorem putA_ne {κ α : Type} [DecidableEq κ] (l : List (κ × α)) (k : κ) (v : α) : putA l k v ≠ [] := by
  unfold putA
  split
  · rename_i h
    cases l with
    | nil => simp at h
    | cons a l => simp
  · simp
/-! forms by their terms -/
abbrev K3 := Int × Int × Int
def toL (k : K3) : List Int := [k.1, k.2.1, k.2.2]
def ofL : List Int → K3
  | [a, b, c] => (a, b, c)
  | _ => (0, 0, 0)
@[simp] theorem ofL_toL (k : K3) : ofL (toL k) = k := rfl
theorem toL_inj {a b : K3} (h : toL a = toL b) : a = b := by rw [← ofL_toL a, h, ofL_toL]
def lt3 (a b : K3) : Bool := lexI (toL a) (toL b)
theorem lt3_irrefl (a : K3) : lt3 a a = false := lexI_irrefl _
theorem lt3_asym {a b : K3} (h : lt3 a b = true) : lt3 b a = false := lexI_asym h
def lk (ts : List (K3 × Rat)) (k : K3) : Rat := ((ts.find? fun x => decide (x.1 = k)).map (·.2)).getD 0
structure Can (ts : List (K3 × Rat)) : Prop where
  srt : ts.Pairwise fun x y => lt3 x.1 y.1 = true
  ne : ∀ x ∈ ts, x.2 ≠ 0
theorem lk_cons (x : K3 × Rat) (ts : List (K3 × Rat)) (k : K3) : lk (x :: ts) k = if x.1 = k then x.2 else lk ts k := by
  unfold lk
  rw [List.find?_cons]
  by_cases h : x.1 = k <;> simp [h]
theorem lk_none {ts : List (K3 × Rat)} {k : K3} (h : k ∉ ts.map (·.1)) : lk ts k = 0 := by
  induction ts with
  | nil => rfl
  | cons x ts ih =>
    simp only [List.map_cons, List.mem_cons, not_or] at h
    rw [lk_cons, if_neg (Ne.symm h.1), ih h.2]
theorem lk_mem {ts : List (K3 × Rat)} (nd : (ts.map (·.1)).Nodup) {x : K3 × Rat} (h : x ∈ ts) : lk ts x.1 = x.2 := by
  induction ts with
  | nil => cases h
  | cons y ts ih =>
    rw [List.map_cons, List.nodup_cons] at nd
    rw [lk_cons]
    rcases List.mem_cons.mp h with rfl | h
    · rw [if_pos rfl]
    · rw [if_neg, ih nd.2 h]
      intro e
      exact nd.1 (by rw [e]; exact List.mem_map.mpr ⟨x, h, rfl⟩)
theorem lk_in {ts : List (K3 × Rat)} {k : K3} (h : k ∈ ts.map (·.1)) : (k, lk ts k) ∈ ts := by
  induction ts with
  | nil => cases h
  | cons y ts ih =>
    rw [lk_cons]
    by_cases c : y.1 = k
    · rw [if_pos c, ← c]; exact List.mem_cons_self
    · rw [if_neg c]
      rcases List.mem_cons.mp h with e | h
      · exact absurd e.symm c
      · exact List.mem_cons_of_mem _ (ih h)
theorem Can.nd {ts : List (K3 × Rat)} (h : Can ts) : (ts.map (·.1)).Nodup :=
  List.pairwise_map.mpr (h.srt.imp fun {x y} q e => by rw [e, lt3_irrefl] at q; cases q)
theorem Can.tail {x : K3 × Rat} {ts : List (K3 × Rat)} (h : Can (x :: ts)) : Can ts := ⟨(List.pairwise_cons.mp h.srt).2, fun y hy => h.ne y (List.mem_cons_of_mem _ hy)⟩
theorem Can.nil : Can [] := ⟨List.Pairwise.nil, fun x h => by cases h⟩
theorem Can.mem {ts : List (K3 × Rat)} (h : Can ts) (x : K3 × Rat) : x ∈ ts ↔ x.2 ≠ 0 ∧ lk ts x.1 = x.2 := by
  constructor
  · exact fun m => ⟨h.ne x m, lk_mem h.nd m⟩
  · rintro ⟨h1, h2⟩
    have : x.1 ∈ ts.map (·.1) := by
      by_cases c : x.1 ∈ ts.map (·.1)
      · exact c
      · rw [lk_none c] at h2; exact absurd h2.symm h1
    have := lk_in this
    rw [h2] at this
    exact this
theorem Can.uniq {a b : List (K3 × Rat)} (ha : Can a) (hb : Can b) (h : ∀ k, lk a k = lk b k) : a = b := by
  have nda : a.Nodup := List.Pairwise.of_map _ (fun x y e => by intro z; exact e (by rw [z])) ha.nd
  have ndb : b.Nodup := List.Pairwise.of_map _ (fun x y e => by intro z; exact e (by rw [z])) hb.nd
  have p : a.Perm b := (List.perm_ext_iff_of_nodup nda ndb).mpr fun x => by rw [ha.mem, hb.mem, h]
  exact p.eq_of_pairwise (fun x y _ _ h1 h2 => by rw [lt3_asym h1] at h2; cases h2) ha.srt hb.srt
def keysOf (tb : List (K3 × Rat)) : List K3 := (srtL (tb.map fun x => toL x.1)).map ofL
def gat (tb : List (K3 × Rat)) : List (K3 × Rat) := ((keysOf tb).filter fun k => decide (lk tb k ≠ 0)).map fun k => (k, lk tb k)
theorem keysOf_mem {tb : List (K3 × Rat)} {k : K3} : k ∈ keysOf tb ↔ k ∈ tb.map (·.1) := by
  unfold keysOf
  constructor
  · intro h
    obtain ⟨l, hl, e⟩ := List.mem_map.mp h
    obtain ⟨x, hx, e2⟩ := List.mem_map.mp ((srtL_perm _).mem_iff.mp hl)
    rw [← e, ← e2, ofL_toL]
    exact List.mem_map.mpr ⟨x, hx, rfl⟩
  · intro h
    obtain ⟨x, hx, e⟩ := List.mem_map.mp h
    exact List.mem_map.mpr ⟨toL k, (srtL_perm _).mem_iff.mpr (List.mem_map.mpr ⟨x, hx, by rw [e]⟩), ofL_toL k⟩
theorem keysOf_toL (tb : List (K3 × Rat)) : (keysOf tb).map toL = srtL (tb.map fun x => toL x.1) := by
  unfold keysOf
  rw [List.map_map]
  have : ∀ l ∈ srtL (tb.map fun x => toL x.1), (toL ∘ ofL) l = l := fun l hl => by
    obtain ⟨x, hx, e⟩ := List.mem_map.mp ((srtL_perm _).mem_iff.mp hl)
    rw [← e]; rfl
  rw [List.map_congr_left this, List.map_id']
theorem keysOf_len (tb : List (K3 × Rat)) : (keysOf tb).length = tb.length := by
  unfold keysOf
  rw [List.length_map, (srtL_perm _).length_eq, List.length_map]
theorem keysOf_srt {tb : List (K3 × Rat)} (nd : (tb.map (·.1)).Nodup) : (keysOf tb).Pairwise fun a b => lt3 a b = true := by
  have h1 : LexS ((keysOf tb).map toL) := by rw [keysOf_toL]; exact srtL_srt _
  have h2 : ((keysOf tb).map toL).Nodup := by
    rw [keysOf_toL, (srtL_perm _).nodup_iff]
    have : (tb.map fun x => toL x.1) = (tb.map (·.1)).map toL := by rw [List.map_map]; rfl
    rw [this]
    exact List.pairwise_map.mpr (nd.imp fun {a b} e z => e (toL_inj z))
  have h1 := List.pairwise_map.mp h1
  have h2 := List.pairwise_map.mp h2
  exact (h1.and h2).imp fun {a b} ⟨q, e⟩ => by
    unfold lt3
    cases c : lexI (toL a) (toL b) with
    | true => rfl
    | false => exact absurd (lexI_eq c q) e
theorem gat_can {tb : List (K3 × Rat)} (nd : (tb.map (·.1)).Nodup) : Can (gat tb) := by
  refine ⟨List.pairwise_map.mpr ((keysOf_srt nd).filter _), fun x hx => ?_⟩
  obtain ⟨k, hk, rfl⟩ := List.mem_map.mp hx
  exact of_decide_eq_true (List.mem_filter.mp hk).2
theorem lk_gat {tb : List (K3 × Rat)} (nd : (tb.map (·.1)).Nodup) (k : K3) : lk (gat tb) k = lk tb k := by
  by_cases c : lk tb k = 0
  · rw [c]
    refine lk_none fun h => ?_
    obtain ⟨x, hx, e⟩ := List.mem_map.mp h
    obtain ⟨j, hj, rfl⟩ := List.mem_map.mp hx
    have e : j = k := e
    subst e
    exact absurd c (of_decide_eq_true (List.mem_filter.mp hj).2)
  · have hk : k ∈ tb.map (·.1) := by
      by_cases z : k ∈ tb.map (·.1)
      · exact z
      · exact absurd (lk_none z) c
    have : (k, lk tb k) ∈ gat tb := List.mem_map.mpr ⟨k, List.mem_filter.mpr ⟨keysOf_mem.mpr hk, decide_eq_true c⟩, rfl⟩
    exact lk_mem (gat_can nd).nd this
theorem putA_keys {tb : List (K3 × Rat)} (nd : (tb.map (·.1)).Nodup) (k : K3) (q : Rat) : ((putA tb k q).map (·.1)).Nodup ∧ (∀ j, j ∈ (putA tb k q).map (·.1) ↔ j = k ∨ j ∈ tb.map (·.1)) ∧ (putA tb k q).length ≤ tb.length + 1 := by
  unfold putA
  have e : (tb.map fun p => if p.1 = k then (p.1, q) else p).map (·.1) = tb.map (·.1) := by
    rw [List.map_map]
    refine List.map_congr_left fun p _ => ?_
    simp only [Function.comp]
    split <;> rfl
  split
  · rename_i h
    obtain ⟨x, hx, hk⟩ := List.any_eq_true.mp h
    have hk : x.1 = k := of_decide_eq_true hk
    rw [e]
    refine ⟨nd, fun j => ⟨.inr, fun z => ?_⟩, by simp⟩
    rcases z with rfl | z
    · exact List.mem_map.mpr ⟨x, hx, hk⟩
    · exact z
  · rename_i h
    have h : k ∉ tb.map (·.1) := fun z => h (by
      obtain ⟨x, hx, hk⟩ := List.mem_map.mp z
      exact List.any_eq_true.mpr ⟨x, hx, decide_eq_true hk⟩)
    refine ⟨?_, fun j => ?_, by simp⟩
    · rw [List.map_append]
      refine List.nodup_append.mpr ⟨nd, by simp, fun a ha b hb => ?_⟩
      have hb : b = k := by simpa using hb
      rintro rfl
      rw [hb] at ha
      exact h ha
    · simp only [List.map_append, List.mem_append, List.map_cons, List.map_nil, List.mem_singleton]
      constructor
      · rintro (a | a)
        · exact .inr a
        · exact .inl a
      · rintro (a | a)
        · exact .inr a
        · exact .inl a
theorem lk_put {tb : List (K3 × Rat)} (nd : (tb.map (·.1)).Nodup) (k j : K3) (q : Rat) : lk (putA tb k q) j = if j = k then q else lk tb j := by
  obtain ⟨nd', hm, _⟩ := putA_keys nd k q
  have mem : ∀ x, x ∈ putA tb k q → x = (k, q) ∨ (x ∈ tb ∧ x.1 ≠ k) := fun x hx => by
    unfold putA at hx
    split at hx
    · obtain ⟨y, hy, rfl⟩ := List.mem_map.mp hx
      by_cases c : y.1 = k
      · rw [if_pos c, c]; exact .inl rfl
      · rw [if_neg c]; exact .inr ⟨hy, c⟩
    · rename_i h
      rcases List.mem_append.mp hx with hx | hx
      · by_cases c : x.1 = k
        · exact absurd (List.any_eq_true.mpr ⟨x, hx, decide_eq_true c⟩) h
        · exact .inr ⟨hx, c⟩
      · exact .inl (by simpa using hx)
  by_cases hj : j ∈ (putA tb k q).map (·.1)
  · have h1 := lk_in hj
    rcases mem _ h1 with e | ⟨e, ne⟩
    · have e1 : j = k := congrArg Prod.fst e
      have e2 : lk (putA tb k q) j = q := congrArg Prod.snd e
      rw [if_pos e1, e2]
    · rw [if_neg ne, lk_mem nd e]
  · have h2 : j ≠ k ∧ j ∉ tb.map (·.1) := ⟨fun z => hj ((hm j).mpr (.inl z)), fun z => hj ((hm j).mpr (.inr z))⟩
    rw [lk_none hj, if_neg h2.1, lk_none h2.2]
/-! as data -/
def trD (k : K3) : D := tupD (toL k)
def termD (x : K3 × Rat) : D := .tup [.int x.1.1, .int x.1.2.1, .int x.1.2.2, frD x.2]
def formD (w : Int) (ts : List (K3 × Rat)) : D := .tup [.int w, .tup (ts.map termD)]
def kk (k : K3) : List Key := (toL k).map Sum.inl
def encT (x : K3 × Rat) : List Key × D := (kk x.1, frD x.2)
theorem kk_inj {a b : K3} (h : kk a = kk b) : a = b := by
  have h : [(Sum.inl a.1 : Key), .inl a.2.1, .inl a.2.2] = [.inl b.1, .inl b.2.1, .inl b.2.2] := h
  injection h with h1 h
  injection h with h2 h
  injection h with h3 _
  obtain ⟨a1, a2, a3⟩ := a
  obtain ⟨b1, b2, b3⟩ := b
  cases Sum.inl.inj h1; cases Sum.inl.inj h2; cases Sum.inl.inj h3
  rfl
theorem find_encT (tb : List (K3 × Rat)) (k : K3) : lkA (tb.map encT) (kk k) = if k ∈ tb.map (·.1) then some (frD (lk tb k)) else none := by
  induction tb with
  | nil => rfl
  | cons x tb ih =>
    unfold lkA at ih ⊢
    rw [List.map_cons, List.find?_cons, lk_cons]
    by_cases c : x.1 = k
    · have : decide ((encT x).1 = kk k) = true := decide_eq_true (by show kk x.1 = kk k; rw [c])
      rw [this, if_pos (by rw [List.map_cons, c]; exact List.mem_cons_self), if_pos c]
      rfl
    · have : decide ((encT x).1 = kk k) = false := decide_eq_false fun z => c (kk_inj z)
      rw [this, if_neg c]
      dsimp only
      rw [ih]
      have : (k ∈ (x :: tb).map (·.1)) ↔ k ∈ tb.map (·.1) := by
        rw [List.map_cons, List.mem_cons]
        exact ⟨fun z => z.resolve_left (Ne.symm c), .inr⟩
      simp only [this]
theorem put_encT (tb : List (K3 × Rat)) (k : K3) (q : Rat) : putA (tb.map encT) (kk k) (frD q) = (putA tb k q).map encT := by
  unfold putA
  have e : ((tb.map encT).any fun p => decide (p.1 = kk k)) = tb.any fun p => decide (p.1 = k) := by
    rw [List.any_map]
    congr 1
    funext x
    show decide (kk x.1 = kk k) = decide (x.1 = k)
    by_cases c : x.1 = k
    · rw [decide_eq_true c, decide_eq_true (by rw [c])]
    · rw [decide_eq_false c, decide_eq_false fun z => c (kk_inj z)]
  rw [e]
  split
  · rw [List.map_map, List.map_map]
    refine List.map_congr_left fun x _ => ?_
    simp only [Function.comp]
    by_cases c : x.1 = k
    · rw [if_pos c, if_pos (show (encT x).1 = kk k by show kk x.1 = kk k; rw [c])]; rfl
    · rw [if_neg c, if_neg (show ¬ (encT x).1 = kk k from fun z => c (kk_inj z))]
  · rw [List.map_append]; rfl
theorem keysD_tr (k : K3) : keysD ((toL k).map D.int) = some (kk k) := rfl
theorem fix_tr (k : K3) : fixB ((toL k).map D.int) = false := rfl
theorem getT_tr (tb : List (K3 × Rat)) (k : K3) : getT (.dT (tb.map encT)) (trD k) = .ok (if k ∈ tb.map (·.1) then some (frD (lk tb k)) else none) := by
  unfold trD tupD
  simp only [getT, fix_tr, keysD_tr, find_encT]
  rfl
theorem putT_tr {tb : List (K3 × Rat)} (h : tb.length < LL) (k : K3) (q : Rat) : putT (.dT (tb.map encT)) (trD k) (frD q) = .ok (.dT ((putA tb k q).map encT)) := by
  unfold trD tupD
  simp only [putT, fix_tr, keysD_tr, List.length_map, put_encT]
  rw [if_neg (by decide), if_pos h]
theorem srtD_tr (tb : List (K3 × Rat)) : srtD (.dT (tb.map encT)) = .ok (.lst ((keysOf tb).map trD)) := by
  have e : ∀ tb : List (K3 × Rat), tupKs (tb.map encT) = some (tb.map fun x => toL x.1) := fun tb => by
    induction tb with
    | nil => rfl
    | cons x tb ih =>
      rw [List.map_cons]
      show (match intK (kk x.1) with | some y => (tupKs (tb.map encT)).map (y :: ·) | none => none) = _
      rw [show intK (kk x.1) = some (toL x.1) from rfl, ih]
      rfl
  simp only [srtD, e]
  have s : sameLen (tb.map fun x => toL x.1) = true := by
    cases tb with
    | nil => rfl
    | cons x tb =>
      simp only [List.map_cons, sameLen, Bool.and_eq_true, List.all_eq_true]
      refine ⟨rfl, fun y hy => ?_⟩
      obtain ⟨z, _, rfl⟩ := List.mem_map.mp hy
      rfl
  rw [if_pos s, ← keysOf_toL, List.map_map]
  rfl
/-! tables gathered -/
theorem term_cat (k : K3) (q : Rat) : Rv.bin .add (trD k) (.tup [frD q]) = .ok (termD (k, q)) := bin_catT (by simp [toL, LL])
theorem l_gathered_at {n : Nat} {w : Int} {tb : List (K3 × Rat)} (hl : tb.length ≤ LL) : call P C (n + 1) n_l_gathered [.int w, .dT (tb.map encT)] = .ok (formD w (gat tb)) := by
  have cp : ev (call P C n) C [.sh (.int w), .sh (.dT (tb.map encT)), .un] true cp_l_gathered_0 = .ok (.lst (((keysOf tb).filter fun k => decide (lk tb k ≠ 0)).map fun k => termD (k, lk tb k))) := by
    unfold cp_l_gathered_0
    refine comp_fil trD (fun k => decide (lk tb k ≠ 0)) _ ?_ (by rw [keysOf_len]; exact hl) fun k hk => ?_
    · simp only [evi_it, ev_dso, dV, List.getElem?_cons_succ, List.getElem?_cons_zero, R.bind_ok, srtD_tr, items_l]
    · have hk := keysOf_mem.mp hk
      have g := getT_tr tb k
      rw [if_pos hk] at g
      have c1 : cmpV .ne (frD (lk tb k)) (.tup [.int 0, .int 1]) = .ok (decide (lk tb k ≠ 0)) := by
        rw [show D.tup [.int 0, .int 1] = frD 0 from rfl, ne_fr]
        by_cases z : lk tb k = 0 <;> simp [z]
      refine ⟨[.sh (.int w), .sh (.dT (tb.map encT)), .sh (trD k)], by simp [wipeE, stE_nl], ?_, fun _ => ?_⟩
      · simp only [ev_cmp, ev_dix, dV, ev_var, ev_tup, evs_cons, evs_nil, ev_int, List.getElem?_cons_succ, List.getElem?_cons_zero, R.bind_ok, g, List.length_cons, List.length_nil, LL, Nat.reduceAdd, Nat.reduceLeDiff, if_true, c1, ofB_ok]
      · simp only [ev_bin, ev_dix, dV, ev_var, ev_tup, evs_cons, evs_nil, List.getElem?_cons_succ, List.getElem?_cons_zero, R.bind_ok, g, List.length_cons, List.length_nil, LL, Nat.reduceAdd, Nat.reduceLeDiff, if_true, term_cat]
  refine call_run rfl rfl (ρ := [.sh (.int w), .sh (.dT (tb.map encT)), .un]) rfl ?_
  unfold fd_l_gathered
  dsimp only
  rw [s_ret (d := formD w (gat tb))]
  · rfl
  · simp only [ev_tup, evs_cons, evs_nil, ev_var, ev_bfn, cp, R.bind_ok, List.getElem?_cons_succ, List.getElem?_cons_zero, bfn_tupL, List.length_cons, List.length_nil, LL, Nat.reduceAdd, Nat.reduceLeDiff, if_true]
    unfold formD gat
    rw [List.map_map]
    rfl
/-! numbers over one bottom -/
def Zb (B A : Nat) (q : Rat) : Prop := ∃ z : Int, q * ((B : Int) : Rat) = (z : Rat) ∧ z.natAbs ≤ A
theorem Zb.add {B A A' : Nat} {p q : Rat} (h : Zb B A p) (h' : Zb B A' q) : Zb B (A + A') (p + q) := by
  obtain ⟨z, e, l⟩ := h
  obtain ⟨z', e', l'⟩ := h'
  refine ⟨z + z', ?_, by omega⟩
  rw [Rat.intCast_add, ← e, ← e']; grind
theorem Zb.zero (B A : Nat) : Zb B A 0 := ⟨0, by rw [Rat.zero_mul]; rfl, Nat.zero_le _⟩
theorem Zb.mono {B A A' : Nat} {q : Rat} (h : Zb B A q) (l : A ≤ A') : Zb B A' q := by
  obtain ⟨z, e, k⟩ := h
  exact ⟨z, e, Nat.le_trans k l⟩
theorem Zb.mul {B A B' A' : Nat} {p q : Rat} (h : Zb B A p) (h' : Zb B' A' q) : Zb (B * B') (A * A') (p * q) := by
  obtain ⟨z, e, l⟩ := h
  obtain ⟨z', e', l'⟩ := h'
  refine ⟨z * z', ?_, by rw [Int.natAbs_mul]; exact Nat.mul_le_mul l l'⟩
  rw [Rat.intCast_mul, ← e, ← e', Int.natCast_mul, Rat.intCast_mul]; grind
theorem Zb.s2 {B A a d : Nat} {q : Rat} (h : Zb B A q) (hB : 0 < B) (ha : A < 2 ^ a) (hd : B < 2 ^ d) : S2 a d q := by
  obtain ⟨z, e, l⟩ := h
  have hBr : ((B : Int) : Rat) ≠ 0 := by
    intro z
    have : (B : Int) = 0 := Rat.intCast_eq_zero_iff.mp z
    omega
  have q1 : q = Rat.divInt z (B : Int) := by
    rw [Rat.divInt_eq_div, ← e, Rat.div_def, Rat.mul_assoc, Rat.mul_inv_cancel _ hBr, Rat.mul_one]
  rw [q1]
  refine ⟨?_, ?_⟩
  · have h1 : (Rat.divInt z (B : Int)).num.natAbs ≤ z.natAbs := by
      rw [Rat.num_divInt]
      refine Nat.le_trans (Int.natAbs_ediv_le_natAbs _ _) ?_
      rw [Int.natAbs_mul]
      have hs : (Int.sign (B : Int)).natAbs = 1 := by rw [Int.sign_eq_one_of_pos (by omega)]; rfl
      rw [hs, Nat.one_mul]
      exact Nat.le_refl _
    exact Nat.lt_of_le_of_lt (Nat.le_trans h1 l) ha
  · rw [Rat.den_divInt, if_neg (by omega)]
    exact Nat.lt_of_le_of_lt (Nat.div_le_self _ _) (by simpa using hd)
/-! a drawn form -/
theorem slc_both {l : List Int} {a b : Nat} (h : a ≤ b) (hb : b ≤ l.length) : slcV (lsI l) (some (a : Int)) (some (b : Int)) = .ok (lsI ((l.drop a).take (b - a))) := by
  unfold lsI
  rw [slc_l]
  congr 2
  unfold Rv.cutD
  rw [HT.sIx_nat, HT.sIx_nat, List.length_map, Nat.min_eq_left hb, Nat.min_eq_left (by omega), ← List.map_drop, ← List.map_take]
theorem dr_take {m k : Nat} {s : Int} {l : List Int} (h : Dr m s l) (hk : k ≤ m) : Dr k s (l.take k) := ⟨by rw [List.length_take, h.1]; omega, fun x hx => h.2 x (List.mem_of_mem_take hx)⟩
theorem divInt_s2 {t b : Int} {a d : Nat} (hb : b ≠ 0) (h1 : t.natAbs < 2 ^ a) (h2 : b.natAbs < 2 ^ d) : S2 a d (Rat.divInt t b) := by
  refine ⟨?_, ?_⟩
  · rw [Rat.num_divInt, Int.natAbs_ediv_of_dvd]
    · rw [Int.natAbs_mul, Int.natAbs_natCast]
      have : b.sign.natAbs = 1 := Int.natAbs_sign_of_ne_zero hb
      rw [this, Nat.one_mul]
      exact Nat.lt_of_le_of_lt (Nat.div_le_self _ _) h1
    · exact Int.dvd_trans (Int.gcd_dvd_right b t) (Int.dvd_mul_left _ _)
  · rw [Rat.den_divInt, if_neg hb]
    exact Nat.lt_of_le_of_lt (Nat.div_le_self _ _) h2
theorem l_number_at {n m : Nat} {l : List Int} (h : Dr m 1000 l) (hm : 6 ≤ m) : ∃ q, S2 40 20 q ∧ call P C (n + 3) n_l_a_number [lsI l] = .ok (frD q) := by
  obtain ⟨x0, a0, b0, e0⟩ := pick h 0 (by decide) (by omega)
  obtain ⟨x1, a1, b1, e1⟩ := pick h 1 (by decide) (by omega)
  obtain ⟨x2, a2, b2, e2⟩ := pick h 2 (by decide) (by omega)
  obtain ⟨x3, a3, b3, e3⟩ := pick h 3 (by decide) (by omega)
  obtain ⟨x4, a4, b4, e4⟩ := pick h 4 (by decide) (by omega)
  obtain ⟨x5, a5, b5, e5⟩ := pick h 5 (by decide) (by omega)
  have run : ∀ q, S2 40 20 q → fin (exSs (call P C (n + 2)) C fd_l_a_number.body [.sh (lsI l), .un, .un, .un]) = .ok (frD q) → ∃ q, S2 40 20 q ∧ call P C (n + 3) n_l_a_number [lsI l] = .ok (frD q) :=
    fun q hq e => ⟨q, hq, call_run rfl rfl rfl e⟩
  by_cases c1 : x0 % 8 < 3
  · refine run (Rat.ofInt (x1 % 19 - 9)) ⟨by show (x1 % 19 - 9).natAbs < 2 ^ 40; omega, by show 1 < 2 ^ 20; decide⟩ ?_
    simp [fd_l_a_number, e0, e1, bin_mod, Int.fmod_eq_emod_of_nonneg, stE_set, c1, LL, fr_int]
  by_cases c2 : x0 % 8 < 5
  · have hb : (1 + x2 % 12).natAbs < 2 ^ 20 := by omega
    refine run (Rat.divInt (x1 % 19 - 9) (1 + x2 % 12)) (divInt_s2 (by omega) (by omega) hb) ?_
    simp [fd_l_a_number, e0, e1, e2, bin_mod, Int.fmod_eq_emod_of_nonneg, stE_set, c1, c2, l_frac_at (n := n) (t := x1 % 19 - 9) (b := 1 + x2 % 12) (by omega) (le9000 hb (by decide))]
  by_cases c3 : x0 % 8 = 5
  · refine run 0 ⟨by decide, by decide⟩ ?_
    simp [fd_l_a_number, e0, e1, e2, bin_mod, Int.fmod_eq_emod_of_nonneg, stE_set, c1, c2, c3, LL, fr_zero]
  have p1 : powOk 10 11 := ⟨by decide, by decide, by decide⟩
  have hT : (10 : Int) ^ (11 : Int).toNat = 100000000000 := by decide
  have key : ∀ b : Int, 0 < b → b < 2 ^ 20 → idxV (.lst [.int 1, .int (1 + x5 * 1000 + x2)]) (.int (x0 / 8 % 2)) = .ok (.int b) → ∃ q, S2 40 20 q ∧ call P C (n + 3) n_l_a_number [lsI l] = .ok (frD q) := by
    intro b hb hb2 e
    have hb3 : b.natAbs < 2 ^ 20 := by omega
    refine run (Rat.divInt (((x1 * 1000 + x2) * 1000 + x3) * 1000 + x4 - 400000000000) b) (divInt_s2 (by omega) (by omega) hb3) ?_
    simp [fd_l_a_number, e0, e1, e2, e3, e4, e5, bin_mod, bin_fdv, divOk_s, bin_mul, mulOk_r, bin_pow p1, hT, Int.fmod_eq_emod_of_nonneg, Int.fdiv_eq_ediv_of_nonneg, stE_set, c1, c2, c3, LL, e,
      l_frac_at (n := n) (t := ((x1 * 1000 + x2) * 1000 + x3) * 1000 + x4 - 400000000000) hb (le9000 hb3 (by decide))]
  rcases Int.emod_two_eq (x0 / 8) with c4 | c4
  · exact key 1 (by decide) (by decide) (by rw [c4]; rfl)
  · exact key (1 + x5 * 1000 + x2) (by omega) (by omega) (by rw [c4]; rfl)
structure KOk (w m : Nat) (k : K3) : Prop where
  p0 : 0 ≤ k.1
  pm : k.1 ≤ m
  q0 : 0 ≤ k.2.1
  r0 : 0 ≤ k.2.2
  wt : 2 * k.1 + 4 * k.2.1 + 6 * k.2.2 = w
theorem lsT_app {L : List K3} (k : K3) : D.lst ((L.map trD) ++ [trD k]) = .lst ((L ++ [k]).map trD) := by rw [List.map_append]; rfl
theorem tri_inner {n w m p : Nat} (hw : w ≤ 60) (hp : 2 * p ≤ w) (hpm : p ≤ m) (L : List K3) (hL : ∀ k ∈ L, KOk w m k) (hl : L.length ≤ 16 * p) (x4 : Sl) (h4 : nlB x4 = true) : ∃ (L' : List K3) (o4 : Sl), nlB o4 = true ∧ (∀ k ∈ L', KOk w m k) ∧ L'.length ≤ 16 * (p + 1) ∧
    exS (call P C n) C lp_l_triples_0 [.sh (.int (w : Int)), .sh (.int (m : Int)), .own (.lst (L.map trD)), .sh (.int (p : Int)), x4] = .nx [.sh (.int (w : Int)), .sh (.int (m : Int)), .own (.lst (L'.map trD)), .sh (.int (p : Int)), o4] := by
  unfold lp_l_triples_0
  have m2 : mulOk 2 (p : Int) := mulOk_l (by decide)
  have dv4 : divOk 4 := divOk_s (by decide) (by decide)
  have dv6 : divOk 6 := divOk_s (by decide) (by decide)
  obtain ⟨e, he⟩ : ∃ e, e = (w - 2 * p) / 4 := ⟨_, rfl⟩
  have e1 : ((w : Int) - 2 * (p : Int)).fdiv 4 + 1 = ((e + 1 : Nat) : Int) := by
    rw [Int.fdiv_eq_ediv_of_nonneg _ (by decide)]; omega
  obtain ⟨ρ', g, L', o4, ho, h1, h2, rfl⟩ := for_rngI (Φ := call P C n) (ρ := [.sh (.int (w : Int)), .sh (.int (m : Int)), .own (.lst (L.map trD)), .sh (.int (p : Int)), x4]) (i := 4) (s := .rng (.cons (.bin .add (.bin .fdv (.bin .sub (.var 0) (.bin .mul (.int 2) (.var 3))) (.int 4)) (.int 1)) .nil)) (body := lb_l_triples_0) (lo := 0) (n := e + 1)
    (fun K ρ => ∃ (L' : List K3) (o4 : Sl), nlB o4 = true ∧ (∀ k ∈ L', KOk w m k) ∧ L'.length ≤ 16 * p + K ∧ ρ = [.sh (.int (w : Int)), .sh (.int (m : Int)), .own (.lst (L'.map trD)), .sh (.int (p : Int)), o4])
    (by simp [bin_mul m2, bin_fdv dv4, e1, rng1 (show rngOk ((e + 1 : Nat) : Int) from ⟨by omega, by omega⟩), -Int.natCast_add]) ⟨L, x4, h4, hL, by omega, rfl⟩ (fun K ρ hK ⟨L', o4, ho, h1, h2, e⟩ => by
    subst e
    have eK : (0 : Int) + (K : Nat) = (K : Int) := by omega
    rw [eK]
    have m4 : mulOk 4 (K : Int) := mulOk_l (by decide)
    obtain ⟨t, ht⟩ : ∃ t : Nat, (w : Int) - 2 * (p : Int) - 4 * (K : Int) = (t : Int) := ⟨w - 2 * p - 4 * K, by omega⟩
    obtain ⟨r, hr⟩ : ∃ r, r = t / 6 := ⟨_, rfl⟩
    have er : (t : Int).fdiv 6 = (r : Int) := by rw [Int.fdiv_eq_ediv_of_nonneg _ (by decide), hr]; rfl
    have em : (t : Int).fmod 6 = ((t % 6 : Nat) : Int) := by rw [Int.fmod_eq_emod_of_nonneg _ (by decide)]; rfl
    have tst : ev (call P C n) C [.sh (.int (w : Int)), .sh (.int (m : Int)), .own (.lst (L'.map trD)), .sh (.int (p : Int)), .sh (.int (K : Int))] false (.cmp .eq (.bin .mod (.bin .sub (.bin .sub (.var 0) (.bin .mul (.int 2) (.var 3))) (.bin .mul (.int 4) (.var 4))) (.int 6)) (.int 0)) = .ok (.bl (decide (t % 6 = 0))) := by
      simp only [ev_cmp, ev_bin, ev_var, ev_int, List.getElem?_cons_succ, List.getElem?_cons_zero, R.bind_ok, bin_mul m2, bin_mul m4, bin_sub, ht, bin_mod (show (6 : Int) ≠ 0 by decide), em, eq_int, ofB_ok]
      congr 2
      exact decide_eq_decide.mpr (by omega)
    by_cases hc : t % 6 = 0
    · refine ⟨[.sh (.int (w : Int)), .sh (.int (m : Int)), .own (.lst (L'.map trD)), .sh (.int (p : Int)), .sh (.int (K : Int))], [.sh (.int (w : Int)), .sh (.int (m : Int)), .own (.lst ((L' ++ [((p : Int), (K : Int), (r : Int))]).map trD)), .sh (.int (p : Int)), .sh (.int (K : Int))], by simp only [setT_var]; exact stE_nl (by simpa using ho), .inl ?_, _, _, rfl, fun k hk => ?_, by rw [List.length_append]; simp; omega, rfl⟩
      · unfold lb_l_triples_0
        rw [s_ifT (by rw [tst, decide_eq_true hc])]
        simp only [exSs_cons, exSs_nil, exS_app, ownL, ev_tup, evs_cons, evs_nil, ev_bin, ev_var, ev_int, List.getElem?_cons_succ, List.getElem?_cons_zero, R.bind_ok, bin_mul m2, bin_mul m4, bin_sub, ht, bin_fdv dv6, er, List.length_cons, List.length_nil, LL, Nat.reduceAdd, Nat.reduceLeDiff, if_true, Out.ofR_ok, List.length_map]
        rw [if_pos (by omega), ← lsT_app]
        rfl
      · rcases List.mem_append.mp hk with hk | hk
        · exact h1 k hk
        · rw [List.mem_singleton.mp hk]
          exact ⟨by show (0 : Int) ≤ p; omega, by show (p : Int) ≤ m; omega, by show (0 : Int) ≤ K; omega, by show (0 : Int) ≤ r; omega, by show 2 * (p : Int) + 4 * (K : Int) + 6 * (r : Int) = w; omega⟩
    · refine ⟨[.sh (.int (w : Int)), .sh (.int (m : Int)), .own (.lst (L'.map trD)), .sh (.int (p : Int)), .sh (.int (K : Int))], [.sh (.int (w : Int)), .sh (.int (m : Int)), .own (.lst (L'.map trD)), .sh (.int (p : Int)), .sh (.int (K : Int))], by simp only [setT_var]; exact stE_nl (by simpa using ho), .inl ?_, _, _, rfl, h1, by omega, rfl⟩
      unfold lb_l_triples_0
      rw [s_ifF0 (by rw [tst, decide_eq_false hc]), exSs_nil])
  exact ⟨L', o4, ho, h1, by omega, g⟩
theorem l_triples_at {n w m : Nat} (hw : w ≤ 60) : ∃ L : List K3, (∀ k ∈ L, KOk w m k) ∧ L.length ≤ 512 ∧ call P C (n + 1) n_l_triples [.int (w : Int), .int (m : Int)] = .ok (.lst (L.map trD)) := by
  obtain ⟨M, hM⟩ : ∃ M, M = min m (w / 2) := ⟨_, rfl⟩
  have dv2 : divOk 2 := divOk_s (by decide) (by decide)
  have e1 : bfn .min2 [.int (m : Int), .int ((w : Int).fdiv 2)] = .ok (.int (M : Int)) := by
    have : (if (w : Int).fdiv 2 < (m : Int) then (w : Int).fdiv 2 else (m : Int)) = (M : Int) := by
      rw [Int.fdiv_eq_ediv_of_nonneg _ (by decide)]
      split <;> omega
    simp only [bfn, this]
  obtain ⟨ρ', g, L, o3, o4, h1, h2, rfl⟩ : ∃ ρ', exS (call P C n) C lp_l_triples_1 [.sh (.int (w : Int)), .sh (.int (m : Int)), .own (.lst []), .un, .un] = .nx ρ' ∧ ∃ (L : List K3) (o3 o4 : Sl), (∀ k ∈ L, KOk w m k) ∧ L.length ≤ 16 * (M + 1) ∧ ρ' = [.sh (.int (w : Int)), .sh (.int (m : Int)), .own (.lst (L.map trD)), o3, o4] := by
    unfold lp_l_triples_1
    obtain ⟨ρ', g, L, o3, o4, _, _, h1, h2, e⟩ := for_rngI (Φ := call P C n) (ρ := [.sh (.int (w : Int)), .sh (.int (m : Int)), .own (.lst []), .un, .un]) (i := 3) (s := .rng (.cons (.bin .add (.bfn .min2 (.cons (.var 1) (.cons (.bin .fdv (.var 0) (.int 2)) .nil))) (.int 1)) .nil)) (body := lb_l_triples_1) (lo := 0) (n := M + 1)
      (fun K ρ => ∃ (L : List K3) (o3 o4 : Sl), nlB o3 = true ∧ nlB o4 = true ∧ (∀ k ∈ L, KOk w m k) ∧ L.length ≤ 16 * K ∧ ρ = [.sh (.int (w : Int)), .sh (.int (m : Int)), .own (.lst (L.map trD)), o3, o4])
      (by
        have r := rng1 (show rngOk ((M + 1 : Nat) : Int) from ⟨by omega, by omega⟩)
        simp only [evi_rng, evs_cons, evs_nil, ev_bin, ev_bfn, ev_var, ev_int, List.getElem?_cons_succ, List.getElem?_cons_zero, R.bind_ok, bin_fdv dv2, e1, bin_add]
        exact r) ⟨[], .un, .un, rfl, rfl, by simp, by simp, rfl⟩ (fun K ρ hK ⟨L, o3, o4, ho3, ho4, h1, h2, e⟩ => by
      subst e
      have eK : (0 : Int) + (K : Nat) = (K : Int) := by omega
      rw [eK]
      obtain ⟨L', o4', ho4', a1, a2, g⟩ := tri_inner (n := n) (w := w) (m := m) (p := K) hw (by omega) (by omega) L h1 h2 o4 ho4
      exact ⟨[.sh (.int (w : Int)), .sh (.int (m : Int)), .own (.lst (L.map trD)), .sh (.int (K : Int)), o4], _, by simp only [setT_var]; exact stE_nl (by simpa using ho3), .inl (by unfold lb_l_triples_1; rw [s_run g, exSs_nil]), L', _, o4', rfl, ho4', a1, a2, rfl⟩)
    exact ⟨ρ', g, L, o3, o4, h1, h2, e⟩
  refine ⟨L, h1, by omega, call_run rfl rfl (ρ := [.sh (.int (w : Int)), .sh (.int (m : Int)), .un, .un, .un]) rfl ?_⟩
  unfold fd_l_triples
  dsimp only
  rw [s_own (l := []) (by simp [LL]) (by rfl)]
  simp only [List.set_cons_succ, List.set_cons_zero]
  rw [s_run g]
  simp only [exSs_frz, frzE, List.getElem?_cons_succ, List.getElem?_cons_zero, List.set_cons_succ, List.set_cons_zero]
  rw [s_ret (d := .lst (L.map trD)) (by simp)]
  rfl
theorem ok_trs : ∀ L : List K3, (L.map trD).all (eqOk 11) = true
  | [] => rfl
  | k :: L => by rw [List.map_cons, List.all_cons, ok_trs L]; rfl
theorem ne_nil (L : List K3) : cmpV .ne (.lst (L.map trD)) (.lst []) = .ok (decide (L ≠ [])) := by
  have e : (eqOk 12 (.lst (L.map trD)) && eqOk 12 (.lst [])) = true := by
    show ((L.map trD).all (eqOk 11) && true) = true
    rw [ok_trs]; rfl
  simp only [cmpV, e, if_true]
  cases L with
  | nil => rfl
  | cons k L => simp [dEq, D.py, pys, PyData.eqv, PyData.eqvAll]
structure FOk (w m : Nat) (ts : List (K3 × Rat)) : Prop where
  key : ∀ x ∈ ts, KOk w m x.1
  num : ∀ x ∈ ts, S2 40 20 x.2
  len : ts.length ≤ 6
theorem putA_mem {tb : List (K3 × Rat)} {k : K3} {q : Rat} {x : K3 × Rat} (h : x ∈ putA tb k q) : x = (k, q) ∨ x ∈ tb := by
  unfold putA at h
  split at h
  · obtain ⟨y, hy, rfl⟩ := List.mem_map.mp h
    split
    · rename_i c; rw [← c]; exact .inl rfl
    · exact .inr hy
  · rcases List.mem_append.mp h with h | h
    · exact .inr h
    · exact .inl (by simpa using h)
theorem gat_mem {tb : List (K3 × Rat)} (nd : (tb.map (·.1)).Nodup) {x : K3 × Rat} (h : x ∈ gat tb) : x ∈ tb := by
  obtain ⟨k, hk, rfl⟩ := List.mem_map.mp h
  exact lk_in (keysOf_mem.mp (List.mem_filter.mp hk).1)
theorem gat_len (tb : List (K3 × Rat)) : (gat tb).length ≤ tb.length := by
  unfold gat
  rw [List.length_map]
  exact Nat.le_trans (List.length_filter_le _ _) (by rw [keysOf_len]; exact Nat.le_refl _)
theorem l_a_form_at {n w m M : Nat} {l : List Int} (hl : Dr M 1000 l) (hM : 43 ≤ M) (hw : w ≤ 60) : ∃ ts, Can ts ∧ FOk w m ts ∧ call P C (n + 5) n_l_a_form [lsI l, .int (w : Int), .int (m : Int)] = .ok (formD w ts) := by
  obtain ⟨L, hL, hL2, eL⟩ := l_triples_at (n := n + 3) (w := w) (m := m) hw
  have eL : call P C (n + 4) n_l_triples [.int (w : Int), .int (m : Int)] = .ok (.lst (L.map trD)) := eL
  have p0 := pickE hl 0 0 rfl (by omega)
  have g0 := dr_at hl (show 0 < M by omega)
  generalize l.getD 0 0 = v0 at *
  obtain ⟨N, hN, hN1, hN6⟩ : ∃ N : Nat, 1 + v0 % 6 = (N : Int) ∧ 1 ≤ N ∧ N ≤ 6 := ⟨(1 + v0 % 6).toNat, by omega, by omega, by omega⟩
  obtain ⟨tb, o5, o6, nd, hk, hq, hlen, g⟩ : ∃ (tb : List (K3 × Rat)) (o5 o6 : Sl), (tb.map (·.1)).Nodup ∧ (∀ x ∈ tb, KOk w m x.1) ∧ (∀ x ∈ tb, S2 40 20 x.2) ∧ tb.length ≤ N ∧
      exS (call P C (n + 4)) C lp_l_a_form_0 [.sh (lsI l), .sh (.int (w : Int)), .sh (.int (m : Int)), .own (.dT []), .sh (.lst (L.map trD)), .un, .un] = .nx [.sh (lsI l), .sh (.int (w : Int)), .sh (.int (m : Int)), .own (.dT (tb.map encT)), .sh (.lst (L.map trD)), o5, o6] := by
    unfold lp_l_a_form_0
    obtain ⟨ρ', g, tb, o5, o6, _, _, nd, hk, hq, hlen, rfl⟩ := for_rngI (Φ := call P C (n + 4)) (ρ := [.sh (lsI l), .sh (.int (w : Int)), .sh (.int (m : Int)), .own (.dT []), .sh (.lst (L.map trD)), .un, .un]) (i := 5) (s := .rng (.cons (.bin .add (.int 1) (.bin .mod (.idx (.var 0) (.int 0)) (.int 6))) .nil)) (body := lb_l_a_form_0) (lo := 0) (n := N)
      (fun K ρ => ∃ (tb : List (K3 × Rat)) (o5 o6 : Sl), nlB o5 = true ∧ nlB o6 = true ∧ (tb.map (·.1)).Nodup ∧ (∀ x ∈ tb, KOk w m x.1) ∧ (∀ x ∈ tb, S2 40 20 x.2) ∧ tb.length ≤ K ∧ ρ = [.sh (lsI l), .sh (.int (w : Int)), .sh (.int (m : Int)), .own (.dT (tb.map encT)), .sh (.lst (L.map trD)), o5, o6])
      (by simp [p0, bin_mod, Int.fmod_eq_emod_of_nonneg, hN, rng1 (show rngOk (N : Int) from ⟨by omega, by omega⟩)])
      ⟨[], .un, .un, rfl, rfl, List.nodup_nil, by simp, by simp, by simp, rfl⟩ (fun K ρ hK ⟨tb, o5, o6, ho5, ho6, nd, hk, hq, hlen, e⟩ => by
      subst e
      have eK : (0 : Int) + (K : Nat) = (K : Int) := by omega
      rw [eK]
      have m7 : mulOk 7 (K : Int) := mulOk_l (by decide)
      have sl := slc_both (l := l) (a := 1 + 7 * K) (b := 8 + 7 * K) (by omega) (by rw [hl.1]; omega)
      have hs : Dr 7 1000 ((l.drop (1 + 7 * K)).take (8 + 7 * K - (1 + 7 * K))) := by
        rw [show 8 + 7 * K - (1 + 7 * K) = 7 by omega]
        exact dr_take (dr_drop hl) (by omega)
      generalize (l.drop (1 + 7 * K)).take (8 + 7 * K - (1 + 7 * K)) = sm at *
      have e1 : (1 : Int) + 7 * (K : Int) = ((1 + 7 * K : Nat) : Int) := by omega
      have e8 : (8 : Int) + 7 * (K : Int) = ((8 + 7 * K : Nat) : Int) := by omega
      have a1 : exSs (call P C (n + 4)) C lb_l_a_form_0 [.sh (lsI l), .sh (.int (w : Int)), .sh (.int (m : Int)), .own (.dT (tb.map encT)), .sh (.lst (L.map trD)), .sh (.int (K : Int)), o6] = exSs (call P C (n + 4)) C (.cons (.ife (.cmp .ne (.var 4) (.lst .nil)) (.cons (.dst 3 (.idx (.var 4) (.bin .mod (.idx (.var 6) (.int 0)) (.bfn .len (.cons (.var 4) .nil)))) (.call n_l_a_number (.cons (.slc (.var 6) (.yes (.int 1)) .no) .nil))) .nil) .nil) .nil) [.sh (lsI l), .sh (.int (w : Int)), .sh (.int (m : Int)), .own (.dT (tb.map encT)), .sh (.lst (L.map trD)), .sh (.int (K : Int)), .sh (lsI sm)] := by
        unfold lb_l_a_form_0
        rw [s_asg (d := lsI sm) (by
          simp only [ev_slc, ev_var, evo_yes, ev_bin, ev_int, List.getElem?_cons_succ, List.getElem?_cons_zero, R.bind_ok, bin_mul m7, bin_add, e1, e8, sl]) (by simp [ho6])]
        simp only [List.set_cons_succ, List.set_cons_zero]
      have tst : ev (call P C (n + 4)) C [.sh (lsI l), .sh (.int (w : Int)), .sh (.int (m : Int)), .own (.dT (tb.map encT)), .sh (.lst (L.map trD)), .sh (.int (K : Int)), .sh (lsI sm)] false (.cmp .ne (.var 4) (.lst .nil)) = .ok (.bl (decide (L ≠ []))) := by
        simp [ne_nil, LL]
      by_cases hc : L = []
      · refine ⟨[.sh (lsI l), .sh (.int (w : Int)), .sh (.int (m : Int)), .own (.dT (tb.map encT)), .sh (.lst (L.map trD)), .sh (.int (K : Int)), o6], [.sh (lsI l), .sh (.int (w : Int)), .sh (.int (m : Int)), .own (.dT (tb.map encT)), .sh (.lst (L.map trD)), .sh (.int (K : Int)), .sh (lsI sm)], by simp only [setT_var]; exact stE_nl (by simpa using ho5), .inl ?_, tb, _, _, rfl, rfl, nd, hk, hq, by omega, rfl⟩
        rw [a1, s_ifF0 (by rw [tst, decide_eq_false (by simp [hc])]), exSs_nil]
      · obtain ⟨q, sq, eq⟩ := l_number_at (n := n + 1) (l := sm.drop 1) (dr_drop (k := 1) hs) (by decide)
        have eq : call P C (n + 4) n_l_a_number [lsI (sm.drop 1)] = .ok (frD q) := eq
        have sl1 := slc_lsI (l := sm) (k := 1) (by decide)
        have q0 := pickE hs 0 0 rfl (by decide)
        have b0 := dr_at hs (show 0 < 7 by decide)
        generalize sm.getD 0 0 = u at *
        have hLp : 0 < L.length := List.length_pos_iff.mpr hc
        obtain ⟨j, hj, hj2⟩ : ∃ j : Nat, u.fmod (L.length : Int) = (j : Int) ∧ j < L.length := by
          rw [Int.fmod_eq_emod_of_nonneg _ (by omega)]
          have a := Int.emod_nonneg u (show (L.length : Int) ≠ 0 by omega)
          have b := Int.emod_lt_of_pos u (show (0 : Int) < L.length by omega)
          exact ⟨(u % (L.length : Int)).toNat, by omega, by omega⟩
        have hk3 : KOk w m L[j] := hL _ (List.getElem_mem hj2)
        have ix : idxV (.lst (L.map trD)) (.int (j : Int)) = .ok (trD L[j]) := ix_lst (by rw [List.getElem?_map, List.getElem?_eq_getElem hj2]; rfl)
        obtain ⟨nd', hm', hl'⟩ := putA_keys nd L[j] q
        have pt := putT_tr (tb := tb) (by unfold LL; omega) L[j] q
        refine ⟨[.sh (lsI l), .sh (.int (w : Int)), .sh (.int (m : Int)), .own (.dT (tb.map encT)), .sh (.lst (L.map trD)), .sh (.int (K : Int)), o6], [.sh (lsI l), .sh (.int (w : Int)), .sh (.int (m : Int)), .own (.dT ((putA tb L[j] q).map encT)), .sh (.lst (L.map trD)), .sh (.int (K : Int)), .sh (lsI sm)], by simp only [setT_var]; exact stE_nl (by simpa using ho5), .inl ?_, _, _, _, rfl, rfl, nd', fun x hx => ?_, fun x hx => ?_, by omega, rfl⟩
        · rw [a1, s_ifT (by rw [tst, decide_eq_true hc])]
          have sl1 : slcV (lsI sm) (some 1) none = .ok (lsI (sm.drop 1)) := sl1
          have ln : bfn .len [.lst (L.map trD)] = .ok (.int (L.length : Int)) := by simp
          simp only [exSs_cons, exSs_nil, exS_dst, dO, List.getElem?_cons_succ, List.getElem?_cons_zero, Out.ofR_ok, ev_call, evs_cons, evs_nil, ev_slc, ev_var, evo_yes, evo_no, ev_int, R.bind_ok, if_true, sl1, eq, ev_idx, ev_bin, ev_bfn, ln, q0, bin_mod (show (L.length : Int) ≠ 0 by omega), hj, ix, pt, List.set_cons_succ, List.set_cons_zero]
        · rcases putA_mem hx with rfl | hx
          · exact hk3
          · exact hk x hx
        · rcases putA_mem hx with rfl | hx
          · exact sq
          · exact hq x hx)
    exact ⟨tb, o5, o6, nd, hk, hq, hlen, g⟩
  have eg := l_gathered_at (n := n + 3) (w := (w : Int)) (tb := tb) (by unfold LL; omega)
  have eg : call P C (n + 4) n_l_gathered [.int (w : Int), .dT (tb.map encT)] = .ok (formD w (gat tb)) := eg
  refine ⟨gat tb, gat_can nd, ⟨fun x hx => hk x (gat_mem nd hx), fun x hx => hq x (gat_mem nd hx), Nat.le_trans (gat_len tb) (by omega)⟩, call_run rfl rfl (ρ := [.sh (lsI l), .sh (.int (w : Int)), .sh (.int (m : Int)), .un, .un, .un, .un]) rfl ?_⟩
  unfold fd_l_a_form
  dsimp only
  rw [exSs_cons, exS_dnw, stE_nl (by rfl)]
  simp only [Out.ofR_ok, List.set_cons_succ, List.set_cons_zero, if_true]
  rw [s_asg (d := .lst (L.map trD)) (by simp [eL]) (by rfl)]
  simp only [List.set_cons_succ, List.set_cons_zero]
  rw [s_run g]
  simp only [exSs_frz, frzE, List.getElem?_cons_succ, List.getElem?_cons_zero, List.set_cons_succ, List.set_cons_zero]
  rw [s_ret (d := formD w (gat tb)) (by simp [eg])]
  rfl
/-! rows of forms: powers of rows of whole numbers -/
def oneI (i : Nat) : Int := if i = 0 then 1 else 0
def pwI (p : Nat → Int) : Nat → Nat → Int
  | 0 => oneI
  | k + 1 => cvI (pwI p k) p
theorem pwI_lt {p : Nat → Int} {a : Nat} (hp : ∀ i, i < 1000 → (p i).natAbs < 2 ^ a) : ∀ k i, i < 1000 → (pwI p k i).natAbs < 2 ^ ((a + 10) * k + 1) := by
  intro k
  induction k with
  | zero => intro i _; simp only [pwI, oneI]; split <;> simp
  | succ k ih =>
    intro i hi
    have := cvI_lt (p := pwI p k) (q := p) (n := i) (a := (a + 10) * k + 1) (b := a) hi (fun j hj => ih j (by omega)) (fun j hj => hp j (by omega))
    refine Nat.lt_of_lt_of_le this (Nat.pow_le_pow_right (by decide) ?_)
    rw [Nat.mul_succ]; omega
theorem tab_oneI {m : Nat} (hm : 1 ≤ m) : (tab m fun i => D.int (oneI i)) = .int 1 :: List.replicate (m - 1) (.int 0) := by
  obtain ⟨k, rfl⟩ : ∃ k, m = k + 1 := ⟨m - 1, by omega⟩
  refine List.ext_getElem? fun i => ?_
  cases i with
  | zero => rw [tab_get (by omega)]; rfl
  | succ i =>
    rw [List.getElem?_cons_succ, List.getElem?_replicate]
    by_cases h : i < k
    · rw [tab_get (by omega), if_pos (by omega)]; rfl
    · rw [List.getElem?_eq_none (by simp; omega), if_neg (by omega)]
theorem one_add {m : Nat} (hm : 1 ≤ m) (hm2 : m ≤ 1000) {d : D} (hd : d = .int ((m : Int) - 1)) :
    ((Rv.bin .mul (.lst [.int 0]) d).bind fun y => Rv.bin .add (.lst [.int 1]) y) = .ok (lsF m oneI) := by
  subst hd
  have rep : dRep [D.int 0] (m - 1) = List.replicate (m - 1) (D.int 0) := by
    simp only [dRep]
    generalize m - 1 = k
    induction k with
    | zero => rfl
    | succ k ih => rw [List.replicate_succ, List.flatten_cons, ih, List.replicate_succ]; rfl
  have hr : rngOk ((m : Int) - 1) := ⟨by omega, by omega⟩
  have et : ((m : Int) - 1).toNat = m - 1 := by omega
  have hmul : Rv.bin .mul (.lst [.int 0]) (.int ((m : Int) - 1)) = .ok (.lst (List.replicate (m - 1) (.int 0))) := by
    simp [Rv.bin, hr, et, rep, LL]
    omega
  rw [hmul, R.bind_ok, lsF, tab_oneI hm]
  exact bin_cat (by simp [LL]; omega)
/-! the law's product of rows of whole numbers -/
/-! letters: products of powers of P, Q and R -/
theorem cvI_assoc (p q r : Nat → Int) : cvI (cvI p q) r = cvI p (cvI q r) := funext fun n => by
  refine Rat.intCast_inj.mp ?_
  rw [cvI_cast, cvI_cast]
  rw [show (fun i => ((cvI p q i : Int) : Rat)) = cv (fun i => (p i : Rat)) fun i => (q i : Rat) from funext fun i => cvI_cast p q i, cv_assoc]
  rw [show (fun i => ((cvI q r i : Int) : Rat)) = cv (fun i => (q i : Rat)) fun i => (r i : Rat) from funext fun i => cvI_cast q r i]
theorem cvI_comm (p q : Nat → Int) : cvI p q = cvI q p := funext fun n => by
  refine Rat.intCast_inj.mp ?_
  rw [cvI_cast, cvI_cast, cv_comm]
theorem oneI_cast : (fun i => ((oneI i : Int) : Rat)) = one' := funext fun i => by
  unfold oneI one'
  split <;> rfl
theorem cvI_one (p : Nat → Int) : cvI oneI p = p := funext fun n => by
  refine Rat.intCast_inj.mp ?_
  rw [cvI_cast, oneI_cast, cv_one]
def fdI (f p : Nat → Int) : Nat → Nat → Int
  | 0 => f
  | k + 1 => cvI (fdI f p k) p
theorem fdI_eq (f p : Nat → Int) : ∀ k, fdI f p k = cvI f (pwI p k)
  | 0 => by rw [fdI, pwI, cvI_comm, cvI_one]
  | k + 1 => by rw [fdI, pwI, fdI_eq f p k, cvI_assoc]
theorem fdI_lt {f p : Nat → Int} {a b : Nat} (hf : ∀ i, i < 1000 → (f i).natAbs < 2 ^ b) (hp : ∀ i, i < 1000 → (p i).natAbs < 2 ^ a) : ∀ k i, i < 1000 → (fdI f p k i).natAbs < 2 ^ (b + (a + 10) * k) := by
  intro k
  induction k with
  | zero => intro i hi; exact hf i hi
  | succ k ih =>
    intro i hi
    have := cvI_lt (p := fdI f p k) (q := p) (n := i) (a := b + (a + 10) * k) (b := a) hi (fun j hj => ih j (by omega)) (fun j hj => hp j (by omega))
    refine Nat.lt_of_lt_of_le this (Nat.pow_le_pow_right (by decide) ?_)
    rw [Nat.mul_succ]; omega
def whW (w : Nat) : Nat → Int := whF ([-24, 240, -504].getD w 0) ([1, 3, 5].getD w 0)
theorem whF_lt {lead : Int} {p : Nat} (hp : p ≤ 5) (hl : lead.natAbs < 2 ^ 10) : ∀ i, i < 1000 → (whF lead p i).natAbs < 2 ^ 100 := by
  intro i hi
  unfold whF
  split
  · decide
  · rw [Int.natAbs_mul]
    have h1 := sg_lt (p := p) (n := i) (by omega)
    have h2 : (sg p i).natAbs < 2 ^ 85 := Nat.lt_of_lt_of_le h1 (Nat.pow_le_pow_right (by decide) (by omega))
    refine Nat.lt_of_lt_of_le (Nat.mul_lt_mul'' hl h2) ?_
    rw [← Nat.pow_add]
    exact Nat.pow_le_pow_right (by decide) (by omega)
theorem whW_lt {w : Nat} (hw : w ≤ 2) : ∀ i, i < 1000 → (whW w i).natAbs < 2 ^ 100 := by
  rcases (show w = 0 ∨ w = 1 ∨ w = 2 by omega) with rfl | rfl | rfl <;> exact whF_lt (by decide) (by decide)
def LT (p q r : Nat) : Nat → Int := cvI (cvI (pwI (whW 0) p) (pwI (whW 1) q)) (pwI (whW 2) r)
theorem LT_eq (p q r : Nat) : fdI (fdI (fdI oneI (whW 0) p) (whW 1) q) (whW 2) r = LT p q r := by
  rw [fdI_eq, fdI_eq, fdI_eq, cvI_one]
  rfl
theorem LT_lt {p q r : Nat} (hp : p ≤ 100) (hq : q ≤ 100) (hr : r ≤ 100) : ∀ i, i < 1000 → (LT p q r i).natAbs < 2 ^ 33010 := by
  intro i hi
  rw [← LT_eq]
  have h0 : ∀ i, i < 1000 → (oneI i).natAbs < 2 ^ 1 := fun i _ => by unfold oneI; split <;> simp
  have := fdI_lt (fdI_lt (fdI_lt h0 (whW_lt (w := 0) (by decide)) p) (whW_lt (w := 1) (by decide)) q) (whW_lt (w := 2) (by decide)) r i hi
  exact Nat.lt_of_lt_of_le this (Nat.pow_le_pow_right (by decide) (by omega))
theorem forL_nx {st : D → Rv.Env → R Rv.Env} {b : Rv.Env → Out} {x : D} {l : List D} {ρ ρ1 ρ2 : Rv.Env} (h1 : st x ρ = .ok ρ1) (h2 : b ρ1 = .nx ρ2) : forL st b (x :: l) ρ = forL st b l ρ2 := by
  rw [forL_cons, h1]
  simp [h2]
/-! rows of forms -/
def FW (a d : Nat) (ts : List (K3 × Rat)) : Prop :=
  ts.length ≤ 1000 ∧ (∀ x ∈ ts, (0 ≤ x.1.1 ∧ x.1.1 ≤ 100) ∧ (0 ≤ x.1.2.1 ∧ x.1.2.1 ≤ 100) ∧ (0 ≤ x.1.2.2 ∧ x.1.2.2 ≤ 100)) ∧ ∃ B : Nat, 0 < B ∧ B < 2 ^ d ∧ ∀ x ∈ ts, x.2.den ∣ B ∧ x.2.num.natAbs < 2 ^ a
def botF (ts : List (K3 × Rat)) : Nat := lcD 1 (ts.map (·.2))
theorem botF_fold (ts : List (K3 × Rat)) : ts.foldl (fun (b : Nat) x => b * x.2.den / Nat.gcd b x.2.den) 1 = botF ts := by
  unfold botF lcD
  rw [List.foldl_map]
theorem FW.rw {a d : Nat} {ts : List (K3 × Rat)} (h : FW a d ts) : Rw a d (ts.map (·.2)) := by
  obtain ⟨h1, _, B, b1, b2, b3⟩ := h
  refine ⟨by rw [List.length_map]; exact h1, B, b1, b2, fun q hq => ?_⟩
  obtain ⟨x, hx, rfl⟩ := List.mem_map.mp hq
  exact b3 x hx
theorem FW.bot {a d : Nat} {ts : List (K3 × Rat)} (h : FW a d ts) : 0 < botF ts ∧ botF ts < 2 ^ d := h.rw.lc
def stF (b : Nat) (f : Nat → Int) (x : K3 × Rat) : Nat → Int := fun i => f i + x.2.num * ((b / x.2.den : Nat) : Int) * LT x.1.1.toNat x.1.2.1.toNat x.1.2.2.toNat i
def accF (ts : List (K3 × Rat)) : Nat → Int := ts.foldl (stF (botF ts)) fun _ => 0
def rowF (ts : List (K3 × Rat)) (i : Nat) : Rat := Rat.divInt (accF ts i) (botF ts)
theorem bot_step {n a d b : Nat} {ts : List (K3 × Rat)} {x : K3 × Rat} {B : Nat} (hd : d ≤ 9000) (hB : 0 < B) (hB2 : B < 2 ^ d) (hx : x.2.den ∣ B ∧ x.2.num.natAbs < 2 ^ a) (hb : 0 < b) (hb2 : b ∣ B) {g : D} (hg : g = .int (Int.gcd (b : Int) (x.2.den : Int))) :
    ((Rv.bin .mul (.int (b : Int)) (.int (x.2.den : Int))).bind fun u => Rv.bin .fdv u g) = .ok (.int ((b * x.2.den / Nat.gcd b x.2.den : Nat) : Int)) := by
  subst hg
  have big : ∀ {b : Nat}, b ∣ B → b < 2 ^ 9000 := fun hb => Nat.lt_of_lt_of_le (Nat.lt_of_le_of_lt (Nat.le_of_dvd hB hb) hB2) (Nat.pow_le_pow_right (by decide) hd)
  have g1 : 0 < Nat.gcd b x.2.den := Nat.gcd_pos_of_pos_left _ hb
  have g2 : divOk ((Nat.gcd b x.2.den : Nat) : Int) := divOk_of (by omega) (by rw [Int.natAbs_natCast]; exact big (Nat.dvd_trans (Nat.gcd_dvd_left _ _) hb2))
  have mk : mulOk (b : Int) (x.2.den : Int) := natmul_ok (big hb2) (big hx.1) (by decide) (by decide)
  rw [bin_mul mk, R.bind_ok, show Int.gcd (b : Int) (x.2.den : Int) = Nat.gcd b x.2.den from rfl, bin_fdv g2, Int.fdiv_eq_ediv_of_nonneg _ (by omega)]
  rfl
/-! the program's rows of forms -/
def mxd : List Int → Int
  | [] => 0
  | i :: r => mostI i r
theorem mostI_mem : ∀ (r : List Int) (i : Int), (∀ y ∈ i :: r, y ≤ mostI i r) ∧ mostI i r ∈ i :: r
  | [], i => by simp [mostI]
  | j :: r, i => by
    simp only [mostI]
    split
    · have ih := mostI_mem r j
      refine ⟨fun y hy => ?_, List.mem_cons_of_mem _ ih.2⟩
      rcases List.mem_cons.mp hy with rfl | hy
      · have := ih.1 j List.mem_cons_self; omega
      · exact ih.1 y hy
    · have ih := mostI_mem r i
      refine ⟨fun y hy => ?_, ?_⟩
      · rcases List.mem_cons.mp hy with rfl | hy
        · exact ih.1 _ List.mem_cons_self
        · rcases List.mem_cons.mp hy with rfl | hy
          · have := ih.1 i List.mem_cons_self; omega
          · exact ih.1 y (List.mem_cons_of_mem _ hy)
      · rcases List.mem_cons.mp ih.2 with h | h
        · rw [h]; exact List.mem_cons_self
        · exact List.mem_cons_of_mem _ (List.mem_cons_of_mem _ h)
theorem mxd_ge {l : List Int} {y : Int} (h : y ∈ l) : y ≤ mxd l := by
  cases l with
  | nil => cases h
  | cons i r => exact (mostI_mem r i).1 y h
theorem mxd_le {l : List Int} {b : Int} (h : ∀ y ∈ l, 0 ≤ y ∧ y ≤ b) (hb : 0 ≤ b) : 0 ≤ mxd l ∧ mxd l ≤ b := by
  cases l with
  | nil => exact ⟨Int.le_refl 0, hb⟩
  | cons i r => exact h _ (mostI_mem r i).2
theorem mxd_at (l : List Int) : (match D.lst (l.map D.int) with | .lst [] => (R.ok (D.int 0) : R D) | .lst l => maxL l | _ => .stk) = .ok (.int (mxd l)) := by
  cases l with
  | nil => rfl
  | cons i r =>
    show maxL ((i :: r).map D.int) = _
    unfold maxL
    rw [ints_back]
    rfl
def prt (w : Nat) (x : K3 × Rat) : Int := (toL x.1).getD w 0
theorem term_ix (w : Nat) (hw : w ≤ 2) (x : K3 × Rat) : idxV (termD x) (.int (w : Int)) = .ok (.int (prt w x)) := by
  rcases (show w = 0 ∨ w = 1 ∨ w = 2 by omega) with rfl | rfl | rfl
  · exact ixT0 _ _
  · exact ixT1 _ _ _
  · exact ixT2 _ _ _ _
theorem prt_ok {a d : Nat} {ts : List (K3 × Rat)} (h : FW a d ts) {w : Nat} (hw : w ≤ 2) : 0 ≤ mxd (ts.map (prt w)) ∧ mxd (ts.map (prt w)) ≤ 100 := by
  refine mxd_le (fun y hy => ?_) (by decide)
  obtain ⟨x, hx, rfl⟩ := List.mem_map.mp hy
  obtain ⟨⟨k1, k2⟩, ⟨k3, k4⟩, k5, k6⟩ := h.2.1 x hx
  rcases (show w = 0 ∨ w = 1 ∨ w = 2 by omega) with rfl | rfl | rfl
  · exact ⟨k1, k2⟩
  · exact ⟨k3, k4⟩
  · exact ⟨k5, k6⟩
theorem depth_at {n a d : Nat} {w : Int} {ts : List (K3 × Rat)} (h : FW a d ts) : call P C (n + 1) n_depth [formD w ts] = .ok (.int (mxd (ts.map (prt 0)))) := by
  refine call_run rfl rfl (ρ := [.sh (formD w ts), .un]) rfl ?_
  have cp : ∀ b, ev (call P C n) C [.sh (formD w ts), .un] b cp_depth_0 = .ok (.lst (ts.map fun x => .int (prt 0 x))) := fun b => by
    unfold cp_depth_0
    refine comp_map termD _ (by simp [formD, show ts.length ≤ LL from Nat.le_trans h.1 (by decide)]) (Nat.le_trans h.1 (by decide)) fun x _ => ⟨[.sh (formD w ts), .sh (termD x)], by simp [wipeE, stE], ?_⟩
    have := term_ix 0 (by decide) x
    simp only [ev_idx, ev_var, ev_int, List.getElem?_cons_succ, List.getElem?_cons_zero, R.bind_ok]
    exact this
  have e : (ts.map fun x => D.int (prt 0 x)) = (ts.map (prt 0)).map D.int := by rw [List.map_map]; rfl
  unfold fd_depth
  rw [s_ret (d := .int (mxd (ts.map (prt 0)))) (by
    rw [ev_maxd, cp, R.bind_ok, ev_int, R.bind_ok, e]
    exact mxd_at _)]
  rfl
def tbD (m : Nat) (ts : List (K3 × Rat)) (w : Nat) : D := .lst (tab ((mxd (ts.map (prt w))).toNat + 1) fun j => lsF m (pwI (whW w) j))
/-! the program's gathering -/
def lsm : List (K3 × Rat) → K3 → Rat
  | [], _ => 0
  | x :: r, k => (if x.1 = k then x.2 else 0) + lsm r k
theorem lsm_app (a b : List (K3 × Rat)) (k : K3) : lsm (a ++ b) k = lsm a k + lsm b k := by
  induction a with
  | nil => rw [List.nil_append, lsm, Rat.zero_add]
  | cons x r ih => rw [List.cons_append, lsm, lsm, ih, Rat.add_assoc]
theorem lsm_zb {B A : Nat} {xs : List (K3 × Rat)} (h : ∀ x ∈ xs, Zb B A x.2) (k : K3) : Zb B (xs.length * A) (lsm xs k) := by
  induction xs with
  | nil => exact Zb.zero B _
  | cons x r ih =>
    rw [List.length_cons, Nat.succ_mul, Nat.add_comm, lsm]
    refine Zb.add ?_ (ih fun y hy => h y (List.mem_cons_of_mem _ hy))
    split
    · exact h x List.mem_cons_self
    · exact Zb.zero B _
theorem gathered_at {n B A a d : Nat} {w : Int} {xs : List (K3 × Rat)} {e : D} (he : e = .tup (xs.map termD) ∨ e = .lst (xs.map termD)) (hB : 0 < B) (hB2 : B < 2 ^ d) (hd : d + d ≤ 9000) (hx : ∀ x ∈ xs, Zb B A x.2) (ha : xs.length * A + A < 2 ^ a) (ha2 : a ≤ 20000000) (hl : xs.length ≤ 100000) :
    ∃ ts, Can ts ∧ (∀ k, lk ts k = lsm xs k) ∧ (∀ x ∈ ts, ∃ y ∈ xs, y.1 = x.1) ∧ ts.length ≤ xs.length ∧ call P C (n + 4) n_gathered [.int w, e] = .ok (formD w ts) := by
  have hll : xs.length ≤ LL := by unfold LL; omega
  have c0 : C gl_NOUGHT = frD 0 := rfl
  obtain ⟨ρ', h1, tb, o3, o4, o5, o6, rfl, nd, hlk, hkk, hlen⟩ := for_atI (Φ := call P C (n + 3)) (ρ := [.sh (.int w), .sh e, .own (.dT (([] : List (K3 × Rat)).map encT)), us none, us none, us none, us none, .un]) (t := .tup (.cons (.var 3) (.cons (.var 4) (.cons (.var 5) (.cons (.var 6) .nil))))) (s := .it (.var 1)) (body := lb_gathered_0) (l := xs.map termD)
    (fun i ρ => ∃ (tb : List (K3 × Rat)) (o3 o4 o5 o6 : Option D), ρ = [.sh (.int w), .sh e, .own (.dT (tb.map encT)), us o3, us o4, us o5, us o6, .un] ∧ (tb.map (·.1)).Nodup ∧ (∀ k, lk tb k = lsm (xs.take i) k) ∧ (∀ k ∈ tb.map (·.1), ∃ y ∈ xs, y.1 = k) ∧ tb.length ≤ i)
    (by rcases he with rfl | rfl <;> simp [hll]) ⟨[], none, none, none, none, rfl, List.nodup_nil, fun k => by rw [List.take_zero]; rfl, by simp, by simp⟩ (fun i x ρ hxi ⟨tb, o3, o4, o5, o6, e, nd, hlk, hkk, hlen⟩ => by
      subst e
      rw [List.getElem?_map] at hxi
      obtain ⟨y, hy, rfl⟩ := Option.map_eq_some_iff.mp hxi
      have hym : y ∈ xs := List.mem_of_getElem? hy
      have hi : i < xs.length := (List.getElem?_eq_some_iff.mp hy).1
      obtain ⟨nd', hm', hl'⟩ := putA_keys nd y.1 (lk tb y.1 + y.2)
      have zb1 : Zb B (xs.length * A) (lk tb y.1) := by
        rw [hlk]
        refine (lsm_zb (fun x hx' => hx x (List.mem_of_mem_take hx')) y.1).mono (Nat.mul_le_mul_right _ ?_)
        rw [List.length_take]; omega
      have s1 : S2 a d (lk tb y.1) := zb1.s2 hB (by omega) hB2
      have s2 : S2 a d y.2 := (hx y hym).s2 hB (by omega) hB2
      have ad := added_at2 (n := n) s1 s2 hd ha2 ha2
      have g := getT_tr tb y.1
      have pt := putT_tr (tb := tb) (by unfold LL; omega) y.1 (lk tb y.1 + y.2)
      have gg : ((getT (.dT (tb.map encT)) (trD y.1)).bind fun o => R.ok (o.getD (frD 0))) = .ok (frD (lk tb y.1)) := by
        rw [g, R.bind_ok]
        split
        · rfl
        · rename_i hno
          rw [lk_none hno]
          rfl
      have te : trD y.1 = .tup [.int y.1.1, .int y.1.2.1, .int y.1.2.2] := rfl
      rw [te] at g pt gg
      refine ⟨[.sh (.int w), .sh e, .own (.dT (tb.map encT)), .sh (.int y.1.1), .sh (.int y.1.2.1), .sh (.int y.1.2.2), .sh (frD y.2), .un], [.sh (.int w), .sh e, .own (.dT ((putA tb y.1 (lk tb y.1 + y.2)).map encT)), .sh (.int y.1.1), .sh (.int y.1.2.1), .sh (.int y.1.2.2), .sh (frD y.2), .un], by simp [termD, stE_nl], .inl ?_, putA tb y.1 (lk tb y.1 + y.2), some _, some _, some _, some _, rfl, nd', fun k => ?_, fun k hk => ?_, by omega⟩
      · simp only [lb_gathered_0, exSs_cons, exSs_nil, exS_dst, dO, List.getElem?_cons_succ, List.getElem?_cons_zero, Out.ofR_ok, ev_call, evs_cons, evs_nil, ev_dgt, dV, ev_tup, ev_var, ev_glb, c0, R.bind_ok, List.length_cons, List.length_nil, LL, Nat.reduceAdd, Nat.reduceLeDiff, if_true, gg, ad, pt, List.set_cons_succ, List.set_cons_zero]
      · rw [lk_put nd, List.take_succ, hy, lsm_app, hlk, hlk]
        simp only [Option.toList, lsm]
        by_cases c : k = y.1
        · rw [if_pos c, if_pos c.symm, c, Rat.add_zero]
        · rw [if_neg c, if_neg fun z => c z.symm, Rat.add_zero, Rat.add_zero]
      · rcases (hm' k).mp hk with rfl | hk
        · exact ⟨y, hym, rfl⟩
        · exact hkk k hk)
  rw [List.length_map] at hlk hlen
  rw [List.take_length] at hlk
  have cp : ev (call P C (n + 3)) C [.sh (.int w), .sh e, .own (.dT (tb.map encT)), us o3, us o4, us o5, us o6, .un] true cp_gathered_0 = .ok (.lst (((keysOf tb).filter fun k => decide (lk tb k ≠ 0)).map fun k => termD (k, lk tb k))) := by
    unfold cp_gathered_0
    refine comp_fil trD (fun k => decide (lk tb k ≠ 0)) _ ?_ (by rw [keysOf_len]; omega) fun k hk => ?_
    · simp only [evi_it, ev_dso, dV, List.getElem?_cons_succ, List.getElem?_cons_zero, R.bind_ok, srtD_tr, items_l]
    · have hk := keysOf_mem.mp hk
      have g := getT_tr tb k
      rw [if_pos hk] at g
      have c1 : cmpV .ne (frD (lk tb k)) (frD 0) = .ok (decide (lk tb k ≠ 0)) := by
        rw [ne_fr]
        by_cases z : lk tb k = 0 <;> simp [z]
      refine ⟨[.sh (.int w), .sh e, .own (.dT (tb.map encT)), us o3, us o4, us o5, us o6, .sh (trD k)], by simp [wipeE, stE_nl], ?_, fun _ => ?_⟩
      · simp only [ev_cmp, ev_dix, dV, ev_var, ev_glb, c0, List.getElem?_cons_succ, List.getElem?_cons_zero, R.bind_ok, g, c1, ofB_ok]
      · simp only [ev_bin, ev_dix, dV, ev_var, ev_tup, evs_cons, evs_nil, List.getElem?_cons_succ, List.getElem?_cons_zero, R.bind_ok, g, List.length_cons, List.length_nil, LL, Nat.reduceAdd, Nat.reduceLeDiff, if_true, term_cat]
  refine ⟨gat tb, gat_can nd, fun k => by rw [lk_gat nd, hlk], fun x hx => hkk _ (List.mem_map.mpr ⟨x, gat_mem nd hx, rfl⟩), Nat.le_trans (gat_len tb) hlen, call_run rfl rfl (ρ := [.sh (.int w), .sh e, .un, .un, .un, .un, .un, .un]) rfl ?_⟩
  unfold fd_gathered
  dsimp only
  rw [exSs_cons, exS_dnw, stE_nl (by rfl)]
  simp only [Out.ofR_ok, List.set_cons_succ, List.set_cons_zero, if_true]
  refine (congrArg fin (s_run h1)).trans ?_
  rw [s_ret (d := formD w (gat tb))]
  · rfl
  · simp only [ev_tup, evs_cons, evs_nil, ev_var, ev_bfn, cp, R.bind_ok, List.getElem?_cons_succ, List.getElem?_cons_zero, bfn_tupL, List.length_cons, List.length_nil, LL, Nat.reduceAdd, Nat.reduceLeDiff, if_true]
    unfold formD gat
    rw [List.map_map]
    rfl
/-! forms reckoned -/
theorem Can.nodup {ts : List (K3 × Rat)} (h : Can ts) : (ts.map (·.1)).Nodup := by
  refine List.pairwise_map.mpr (h.srt.imp fun {x y} l e => ?_)
  rw [e] at l
  exact absurd l (by rw [lt3_irrefl]; decide)
theorem lsm_lk {ts : List (K3 × Rat)} (nd : (ts.map (·.1)).Nodup) (k : K3) : lsm ts k = lk ts k := by
  induction ts with
  | nil => rfl
  | cons x r ih =>
    rw [List.map_cons, List.nodup_cons] at nd
    rw [lsm, lk_cons, ih nd.2]
    by_cases c : x.1 = k
    · rw [if_pos c, if_pos c, lk_none (by rw [← c]; exact nd.1), Rat.add_zero]
    · rw [if_neg c, if_neg c, Rat.zero_add]
theorem form_sum_at {n B A a d : Nat} {w : Int} {xs ys : List (K3 × Rat)} (cx : Can xs) (cy : Can ys) (hB : 0 < B) (hB2 : B < 2 ^ d) (hd : d + d ≤ 9000) (hx : ∀ x ∈ xs, Zb B A x.2) (hy : ∀ x ∈ ys, Zb B A x.2) (ha : (xs.length + ys.length) * A + A < 2 ^ a) (ha2 : a ≤ 20000000) (hl : xs.length + ys.length ≤ 100000) :
    ∃ ts, Can ts ∧ (∀ k, lk ts k = lk xs k + lk ys k) ∧ (∀ x ∈ ts, (∃ y ∈ xs, y.1 = x.1) ∨ ∃ y ∈ ys, y.1 = x.1) ∧ ts.length ≤ xs.length + ys.length ∧ call P C (n + 5) n_form_sum [formD w xs, formD w ys] = .ok (formD w ts) := by
  obtain ⟨ts, h1, h2, h3, h4, h5⟩ := gathered_at (n := n) (w := w) (xs := xs ++ ys) (.inl rfl) hB hB2 hd (fun x h => (List.mem_append.mp h).elim (hx x) (hy x)) (a := a) (by rw [List.length_append]; exact ha) ha2 (by rw [List.length_append]; exact hl)
  refine ⟨ts, h1, fun k => by rw [h2, lsm_app, lsm_lk cx.nodup, lsm_lk cy.nodup], fun x hx => ?_, by rw [List.length_append] at h4; exact h4, ?_⟩
  · obtain ⟨y, hy, e⟩ := h3 x hx
    exact (List.mem_append.mp hy).elim (fun h => .inl ⟨y, h, e⟩) fun h => .inr ⟨y, h, e⟩
  · refine call_run rfl rfl (ρ := [.sh (formD w xs), .sh (formD w ys)]) rfl ?_
    rw [List.map_append] at h5
    have b : Rv.bin .add (.tup (xs.map termD)) (.tup (ys.map termD)) = .ok (.tup (xs.map termD ++ ys.map termD)) := bin_catT (by simp [LL]; omega)
    unfold fd_form_sum
    rw [s_ifF0 (ev_cmpB (x := .int w) (y := .int w) (k := false) (by simp [formD]) (by simp [formD]) (by rw [ne_int]; simp))]
    rw [s_ret (d := formD w ts) (by
      have e0 : ∀ zs : List (K3 × Rat), idxV (formD w zs) (.int 0) = .ok (.int w) := fun _ => ixT0 _ _
      have e1 : ∀ zs : List (K3 × Rat), idxV (formD w zs) (.int 1) = .ok (.tup (zs.map termD)) := fun _ => ixT1 _ _ _
      simp only [ev_call, evs_cons, evs_nil, ev_idx, ev_var, ev_int, ev_bin, List.getElem?_cons_succ, List.getElem?_cons_zero, R.bind_ok, e0, e1, b, h5])]
    rfl
theorem form_times_at {n B A a d D E : Nat} {w : Int} {xs : List (K3 × Rat)} {q : Rat} (hB : 0 < B) (hB2 : B < 2 ^ d) (hd : d + d ≤ 9000) (hx : ∀ x ∈ xs, Zb B A (x.2 * q)) (ha : xs.length * A + A < 2 ^ a) (ha2 : a ≤ 20000000) (hl : xs.length ≤ 100000) (hs : ∀ x ∈ xs, S2 D E x.2) (hq : S2 D E q) (hE : E + E ≤ 9000) (hD : D ≤ 10000) :
    ∃ ts, Can ts ∧ (∀ k, lk ts k = lsm (xs.map fun x => (x.1, x.2 * q)) k) ∧ (∀ x ∈ ts, ∃ y ∈ xs, y.1 = x.1) ∧ ts.length ≤ xs.length ∧ call P C (n + 5) n_form_times [formD w xs, frD q] = .ok (formD w ts) := by
  obtain ⟨ts, h1, h2, h3, h4, h5⟩ := gathered_at (n := n) (w := w) (xs := xs.map fun x => (x.1, x.2 * q)) (.inr rfl) hB hB2 hd (fun x h => by
    obtain ⟨y, hy, rfl⟩ := List.mem_map.mp h
    exact hx y hy) (a := a) (by rw [List.length_map]; exact ha) ha2 (by rw [List.length_map]; exact hl)
  have hll : xs.length ≤ LL := by unfold LL; omega
  refine ⟨ts, h1, h2, fun x hx => ?_, by rw [List.length_map] at h4; exact h4, ?_⟩
  · obtain ⟨y, hy, e⟩ := h3 x hx
    obtain ⟨z, hz, rfl⟩ := List.mem_map.mp hy
    exact ⟨z, hz, e⟩
  · refine call_run rfl rfl (ρ := [.sh (formD w xs), .sh (frD q), .un, .un, .un, .un]) rfl ?_
    have cp : ∀ b, ev (call P C (n + 4)) C [.sh (formD w xs), .sh (frD q), .un, .un, .un, .un] b cp_form_times_0 = .ok (.lst (xs.map fun x => termD (x.1, x.2 * q))) := fun b => by
      unfold cp_form_times_0
      refine comp_map termD _ (by simp [formD, hll]) hll fun x hx => ⟨[.sh (formD w xs), .sh (frD q), .sh (.int x.1.1), .sh (.int x.1.2.1), .sh (.int x.1.2.2), .sh (frD x.2)], by simp [termD, wipeE, stE_nl], ?_⟩
      have t := times_at2 (n := n + 1) (hs x hx) hq (by omega) (by omega) (by omega)
      have t : call P C (n + 4) n_times [frD x.2, frD q] = .ok (frD (x.2 * q)) := t
      simp [t, termD, LL]
    rw [List.map_map] at h5
    unfold fd_form_times
    rw [s_ret (d := formD w ts) (by
      have e0 : ∀ zs : List (K3 × Rat), idxV (formD w zs) (.int 0) = .ok (.int w) := fun _ => ixT0 _ _
      simp only [ev_call, evs_cons, evs_nil, ev_idx, ev_var, ev_int, cp, List.getElem?_cons_succ, List.getElem?_cons_zero, R.bind_ok, e0]
      exact h5)]
    rfl
/-! rows of forms as sums over the keys -/
def ltR (k : K3) (i : Nat) : Rat := ((LT k.1.toNat k.2.1.toNat k.2.2.toNat i : Int) : Rat)
def rowS : List (K3 × Rat) → Nat → Rat
  | [], _ => 0
  | x :: r, i => x.2 * ltR x.1 i + rowS r i
theorem rowS_app (a b : List (K3 × Rat)) (i : Nat) : rowS (a ++ b) i = rowS a i + rowS b i := by
  induction a with
  | nil => rw [List.nil_append, rowS, Rat.zero_add]
  | cons x r ih => rw [List.cons_append, rowS, rowS, ih, Rat.add_assoc]
theorem acc_foldl {b : Nat} (hb : 0 < b) (i : Nat) : ∀ (ts : List (K3 × Rat)) (f : Nat → Int), (∀ x ∈ ts, x.2.den ∣ b) → ((ts.foldl (stF b) f i : Int) : Rat) = (f i : Rat) + rowS ts i * ((b : Int) : Rat)
  | [], f, _ => by rw [List.foldl_nil, rowS, Rat.zero_mul, Rat.add_zero]
  | x :: r, f, h => by
    rw [List.foldl_cons, acc_foldl hb i r _ fun y hy => h y (List.mem_cons_of_mem _ hy)]
    obtain ⟨c, hc⟩ := h x List.mem_cons_self
    have dn := x.2.den_nz
    have e1 : b / x.2.den = c := by rw [hc, Nat.mul_div_cancel_left _ (by omega)]
    have e2 : x.2 * ((b : Int) : Rat) = ((x.2.num * (c : Int) : Int) : Rat) := by
      have hm : x.2 * ((x.2.den : Int) : Rat) = (x.2.num : Rat) := by
        have dr : ((x.2.den : Int) : Rat) ≠ 0 := fun z => by
          have := Rat.intCast_eq_zero_iff.mp z
          omega
        have h0 : Rat.divInt x.2.num (x.2.den : Int) = x.2 := Rat.num_divInt_den x.2
        rw [Rat.divInt_eq_div, Rat.div_def] at h0
        have h1 := congrArg (fun z => z * ((x.2.den : Int) : Rat)) h0
        rw [Rat.mul_assoc, Rat.inv_mul_cancel _ dr, Rat.mul_one] at h1
        exact h1.symm
      rw [hc, Int.natCast_mul, Rat.intCast_mul, ← Rat.mul_assoc, hm, Rat.intCast_mul]
    simp only [stF, rowS, e1]
    rw [Rat.intCast_add, Rat.intCast_mul, ← e2]
    unfold ltR
    grind
theorem rowF_sum {a d : Nat} {ts : List (K3 × Rat)} (h : FW a d ts) (i : Nat) : rowF ts i = rowS ts i := by
  have hb := h.bot.1
  have hbr : (((botF ts : Nat) : Int) : Rat) ≠ 0 := fun z => by
    have := Rat.intCast_eq_zero_iff.mp z
    omega
  have e := acc_foldl hb i ts (fun _ => 0) fun x hx => lcD_dvd.2 _ (List.mem_map.mpr ⟨x, hx, rfl⟩)
  unfold rowF
  rw [Rat.divInt_eq_div, show accF ts i = ts.foldl (stF (botF ts)) (fun _ => 0) i from rfl, e, show ((0 : Int) : Rat) = 0 from rfl, Rat.zero_add, Rat.div_def, Rat.mul_assoc, Rat.mul_inv_cancel _ hbr, Rat.mul_one]
/-! a row depends on the number of each key alone -/
def rowK (i : Nat) : List K3 → (K3 → Rat) → Rat
  | [], _ => 0
  | k :: r, c => c k * ltR k i + rowK i r c
theorem rowK_add (i : Nat) (K : List K3) (c c' : K3 → Rat) : rowK i K (fun k => c k + c' k) = rowK i K c + rowK i K c' := by
  induction K with
  | nil => exact (Rat.add_zero 0).symm
  | cons k r ih => simp only [rowK]; rw [ih]; grind
theorem rowK_congr (i : Nat) {K : List K3} {c c' : K3 → Rat} (h : ∀ k ∈ K, c k = c' k) : rowK i K c = rowK i K c' := by
  induction K with
  | nil => rfl
  | cons k r ih => simp only [rowK]; rw [h k List.mem_cons_self, ih fun j hj => h j (List.mem_cons_of_mem _ hj)]
theorem rowK_zero (i : Nat) (K : List K3) : rowK i K (fun _ => 0) = 0 := by
  induction K with
  | nil => rfl
  | cons k r ih => simp only [rowK]; rw [ih, Rat.zero_mul, Rat.add_zero]
theorem rowK_one (i : Nat) {K : List K3} (nd : K.Nodup) {j : K3} {q : Rat} (h : j ∈ K) : rowK i K (fun k => if j = k then q else 0) = q * ltR j i := by
  induction K with
  | nil => cases h
  | cons k r ih =>
    rw [List.nodup_cons] at nd
    simp only [rowK]
    by_cases c : j = k
    · rw [if_pos c, rowK_congr i (c' := fun _ => 0) fun x hx => if_neg fun e => nd.1 (by rw [← c, e]; exact hx), rowK_zero, Rat.add_zero, c]
    · rw [if_neg c, Rat.zero_mul, Rat.zero_add]
      exact ih nd.2 ((List.mem_cons.mp h).resolve_left c)
theorem rowS_K (i : Nat) {K : List K3} (nd : K.Nodup) : ∀ (xs : List (K3 × Rat)), (∀ x ∈ xs, x.1 ∈ K) → rowS xs i = rowK i K (lsm xs)
  | [], _ => (rowK_zero i K).symm
  | x :: r, h => by
    rw [show lsm (x :: r) = fun k => (if x.1 = k then x.2 else 0) + lsm r k from rfl, rowK_add, rowK_one i nd (h x List.mem_cons_self), rowS, rowS_K i nd r fun y hy => h y (List.mem_cons_of_mem _ hy)]
theorem nodup_over (l : List K3) : ∃ K : List K3, K.Nodup ∧ ∀ k ∈ l, k ∈ K := by
  induction l with
  | nil => exact ⟨[], List.nodup_nil, by simp⟩
  | cons a r ih =>
    obtain ⟨K, h1, h2⟩ := ih
    by_cases c : a ∈ K
    · exact ⟨K, h1, fun k hk => (List.mem_cons.mp hk).elim (fun e => e ▸ c) (h2 k)⟩
    · exact ⟨a :: K, List.nodup_cons.mpr ⟨c, h1⟩, fun k hk => (List.mem_cons.mp hk).elim (fun e => e ▸ List.mem_cons_self) fun hk => List.mem_cons_of_mem _ (h2 k hk)⟩
theorem rowS_same {xs ys : List (K3 × Rat)} (h : ∀ k, lsm xs k = lsm ys k) (i : Nat) : rowS xs i = rowS ys i := by
  obtain ⟨K, h1, h2⟩ := nodup_over (xs.map (·.1) ++ ys.map (·.1))
  rw [rowS_K i h1 xs fun x hx => h2 _ (List.mem_append.mpr (.inl (List.mem_map.mpr ⟨x, hx, rfl⟩))), rowS_K i h1 ys fun x hx => h2 _ (List.mem_append.mpr (.inr (List.mem_map.mpr ⟨x, hx, rfl⟩)))]
  exact rowK_congr i fun k _ => h k
/-! products of forms -/
def addK (a b : K3) : K3 := (a.1 + b.1, a.2.1 + b.2.1, a.2.2 + b.2.2)
def mulT (x : K3 × Rat) (ys : List (K3 × Rat)) : List (K3 × Rat) := ys.map fun y => (addK x.1 y.1, x.2 * y.2)
def mulL (xs ys : List (K3 × Rat)) : List (K3 × Rat) := xs.foldl (fun l x => l ++ mulT x ys) []
theorem check_weight_at {n : Nat} {w : Int} (h : w ≤ 60) : call P C (n + 1) n_check_weight [.int w] = .ok .non := by
  have c0 : C gl_HEAVIEST = .int 60 := rfl
  have nn : ¬ (60 : Int) < w := by omega
  refine call_run rfl rfl (ρ := [.sh (.int w)]) rfl ?_
  simp [fd_check_weight, c0, nn]
theorem prod_comp {n A E : Nat} {d0 : D} {w : Int} {x : K3 × Rat} {ys : List (K3 × Rat)} {x2 : Sl} (hl : ys.length ≤ LL) (hx : S2 A E x.2) (hs : ∀ y ∈ ys, S2 A E y.2) (hE : E + E ≤ 9000) (hD : A ≤ 10000000) (b : Bool) :
    ev (call P C (n + 3)) C [.sh d0, .sh (formD w ys), x2, .sh (.int x.1.1), .sh (.int x.1.2.1), .sh (.int x.1.2.2), .sh (frD x.2), .un, .un, .un, .un] b cp_form_product_0 = .ok (.lst ((mulT x ys).map termD)) := by
  unfold mulT
  rw [List.map_map]
  unfold cp_form_product_0
  refine comp_map termD _ (by simp [formD, hl]) hl fun y hy => ⟨[.sh d0, .sh (formD w ys), x2, .sh (.int x.1.1), .sh (.int x.1.2.1), .sh (.int x.1.2.2), .sh (frD x.2), .sh (.int y.1.1), .sh (.int y.1.2.1), .sh (.int y.1.2.2), .sh (frD y.2)], by simp [termD, wipeE, stE_nl], ?_⟩
  have t := times_at2 (n := n) hx (hs y hy) hE (by omega) (by omega)
  simp [t, termD, addK, LL]
theorem mulL_len (ys : List (K3 × Rat)) : ∀ (xs l : List (K3 × Rat)), (xs.foldl (fun l x => l ++ mulT x ys) l).length = l.length + xs.length * ys.length
  | [], l => by simp
  | x :: r, l => by
    rw [List.foldl_cons, mulL_len ys r, List.length_append, List.length_cons, Nat.succ_mul, mulT, List.length_map]; omega
theorem mulL_mem (ys : List (K3 × Rat)) {t : K3 × Rat} : ∀ (xs l : List (K3 × Rat)), t ∈ xs.foldl (fun l x => l ++ mulT x ys) l → t ∈ l ∨ ∃ x ∈ xs, ∃ y ∈ ys, t = (addK x.1 y.1, x.2 * y.2)
  | [], l, h => .inl h
  | x :: r, l, h => by
    rw [List.foldl_cons] at h
    rcases mulL_mem ys r _ h with h | ⟨z, hz, y, hy, e⟩
    · rcases List.mem_append.mp h with h | h
      · exact .inl h
      · obtain ⟨y, hy, e⟩ := List.mem_map.mp h
        exact .inr ⟨x, List.mem_cons_self, y, hy, e.symm⟩
    · exact .inr ⟨z, List.mem_cons_of_mem _ hz, y, hy, e⟩
theorem form_product_at {n A E B A' a d : Nat} {w w' : Int} {xs ys : List (K3 × Rat)} (hw : w + w' ≤ 60) (hx : ∀ x ∈ xs, S2 A E x.2) (hy : ∀ y ∈ ys, S2 A E y.2) (hE : E + E ≤ 9000) (hA : A ≤ 10000000) (hlx : xs.length ≤ 300) (hly : ys.length ≤ 300)
    (hB : 0 < B) (hB2 : B < 2 ^ d) (hd : d + d ≤ 9000) (hz : ∀ x ∈ xs, ∀ y ∈ ys, Zb B A' (x.2 * y.2)) (ha : xs.length * ys.length * A' + A' < 2 ^ a) (ha2 : a ≤ 20000000) :
    ∃ ts, Can ts ∧ (∀ k, lk ts k = lsm (mulL xs ys) k) ∧ (∀ t ∈ ts, ∃ x ∈ xs, ∃ y ∈ ys, t.1 = addK x.1 y.1) ∧ ts.length ≤ xs.length * ys.length ∧ call P C (n + 5) n_form_product [formD w xs, formD w' ys] = .ok (formD (w + w') ts) := by
  have ll : (mulL xs ys).length = xs.length * ys.length := by rw [mulL, mulL_len]; simp
  have lb : xs.length * ys.length ≤ 300 * 300 := Nat.mul_le_mul hlx hly
  have hll : ∀ m, m ≤ 90000 → m ≤ LL := fun m h => by unfold LL; omega
  obtain ⟨ts, h1, h2, h3, h4, h5⟩ := gathered_at (n := n) (w := w + w') (xs := mulL xs ys) (.inr rfl) hB hB2 hd (fun t h => by
    rcases mulL_mem ys xs [] h with h | ⟨x, hx, y, hy, rfl⟩
    · cases h
    · exact hz x hx y hy) (a := a) (by rw [ll]; exact ha) ha2 (by rw [ll]; omega)
  refine ⟨ts, h1, h2, fun t ht => ?_, by rw [← ll]; exact h4, ?_⟩
  · obtain ⟨y, hy, e⟩ := h3 t ht
    rcases mulL_mem ys xs [] hy with h | ⟨x, hx, y', hy', rfl⟩
    · cases h
    · exact ⟨x, hx, y', hy', e.symm⟩
  have f0 : ∀ i, i < xs.length → ∀ x, xs[i]? = some x → (xs.take (i + 1)).foldl (fun l x => l ++ mulT x ys) [] = (xs.take i).foldl (fun l x => l ++ mulT x ys) [] ++ mulT x ys := fun i hi x hx => by
    rw [List.take_succ, hx]
    simp
  obtain ⟨ρ', g1, o3, o4, o5, o6, rfl⟩ := for_atI (Φ := call P C (n + 4)) (ρ := [.sh (formD w xs), .sh (formD w' ys), .sh (.lst (([] : List (K3 × Rat)).map termD)), us none, us none, us none, us none, .un, .un, .un, .un]) (t := .tup (.cons (.var 3) (.cons (.var 4) (.cons (.var 5) (.cons (.var 6) .nil))))) (s := .it (.idx (.var 0) (.int 1))) (body := lb_form_product_0) (l := xs.map termD)
    (fun i ρ => ∃ o3 o4 o5 o6 : Option D, ρ = [.sh (formD w xs), .sh (formD w' ys), .sh (.lst (((xs.take i).foldl (fun l x => l ++ mulT x ys) []).map termD)), us o3, us o4, us o5, us o6, .un, .un, .un, .un])
    (by simp [formD, hll xs.length (by omega)]) ⟨none, none, none, none, rfl⟩ (fun i x ρ hxi ⟨o3, o4, o5, o6, e⟩ => by
      subst e
      rw [List.getElem?_map] at hxi
      obtain ⟨x, hxx, rfl⟩ := Option.map_eq_some_iff.mp hxi
      have hxm : x ∈ xs := List.mem_of_getElem? hxx
      have hi : i < xs.length := (List.getElem?_eq_some_iff.mp hxx).1
      have cp := prod_comp (n := n + 1) (d0 := formD w xs) (w := w') (x := x) (ys := ys) (x2 := .sh (.lst (((xs.take i).foldl (fun l x => l ++ mulT x ys) []).map termD))) (hll _ (by omega)) (hx x hxm) hy hE hA true
      rw [show n + 1 + 3 = n + 4 from rfl] at cp
      have lt : ((xs.take i).foldl (fun l x => l ++ mulT x ys) []).length + (mulT x ys).length ≤ LL := by
        have := mulL_len ys (xs.take (i + 1)) []
        rw [f0 i hi x hxx, List.length_append] at this
        rw [this, List.length_nil, Nat.zero_add, List.length_take]
        have : min (i + 1) xs.length * ys.length ≤ 300 * 300 := Nat.mul_le_mul (by omega) hly
        exact hll _ (by omega)
      refine ⟨[.sh (formD w xs), .sh (formD w' ys), .sh (.lst (((xs.take i).foldl (fun l x => l ++ mulT x ys) []).map termD)), .sh (.int x.1.1), .sh (.int x.1.2.1), .sh (.int x.1.2.2), .sh (frD x.2), .un, .un, .un, .un], [.sh (formD w xs), .sh (formD w' ys), .sh (.lst (((xs.take (i + 1)).foldl (fun l x => l ++ mulT x ys) []).map termD)), .sh (.int x.1.1), .sh (.int x.1.2.1), .sh (.int x.1.2.2), .sh (frD x.2), .un, .un, .un, .un], by simp [termD, stE_nl], .inl ?_, some _, some _, some _, some _, rfl⟩
      unfold lb_form_product_0
      rw [s_asg (d := .lst (((xs.take (i + 1)).foldl (fun l x => l ++ mulT x ys) []).map termD)) (by
        rw [ev_bin, cp, ev_var]
        simp only [List.getElem?_cons_succ, List.getElem?_cons_zero, R.bind_ok]
        rw [f0 i hi x hxx, List.map_append]
        exact bin_cat (by rw [List.length_map, List.length_map]; exact lt)) (by rfl)]
      rfl)
  rw [List.length_map, List.take_length] at g1
  have cw := check_weight_at (n := n + 3) hw
  have cw : call P C (n + 4) n_check_weight [.int (w + w')] = .ok .non := cw
  have e0 : ∀ (w : Int) (zs : List (K3 × Rat)), idxV (formD w zs) (.int 0) = .ok (.int w) := fun _ _ => ixT0 _ _
  refine call_run rfl rfl (ρ := [.sh (formD w xs), .sh (formD w' ys), .un, .un, .un, .un, .un, .un, .un, .un, .un]) rfl ?_
  unfold fd_form_product
  rw [s_run (ρ' := [.sh (formD w xs), .sh (formD w' ys), .un, .un, .un, .un, .un, .un, .un, .un, .un]) (by simp [e0, cw])]
  rw [s_asg (d := .lst []) (by simp [LL]) (by rfl)]
  simp only [List.set_cons_succ, List.set_cons_zero]
  refine (congrArg fin (s_run g1)).trans ?_
  rw [s_ret (d := formD (w + w') ts) (by
    simp only [ev_call, evs_cons, evs_nil, ev_bin, ev_idx, ev_var, ev_int, List.getElem?_cons_succ, List.getElem?_cons_zero, R.bind_ok, e0, bin_add]
    exact h5)]
  rfl
/-! the row of a product of forms -/
theorem pwI_add (p : Nat → Int) (a : Nat) : ∀ b, pwI p (a + b) = cvI (pwI p a) (pwI p b)
  | 0 => by rw [Nat.add_zero, pwI, cvI_comm, cvI_one]
  | b + 1 => by rw [← Nat.add_assoc, pwI, pwI, pwI_add p a b, cvI_assoc]
theorem LT_add (p q r p' q' r' : Nat) : LT (p + p') (q + q') (r + r') = cvI (LT p q r) (LT p' q' r') := by
  unfold LT
  rw [pwI_add, pwI_add, pwI_add]
  generalize pwI (whW 0) p = A
  generalize pwI (whW 1) q = B
  generalize pwI (whW 2) r = D
  generalize pwI (whW 0) p' = A'
  generalize pwI (whW 1) q' = B'
  generalize pwI (whW 2) r' = D'
  have e1 : cvI (cvI A A') (cvI B B') = cvI (cvI A B) (cvI A' B') := by
    rw [cvI_assoc, ← cvI_assoc A' B B', cvI_comm A' B, cvI_assoc B A' B', ← cvI_assoc A B]
  rw [e1]
  generalize cvI A B = X
  generalize cvI A' B' = Y
  rw [cvI_assoc, ← cvI_assoc Y D D', cvI_comm Y D, cvI_assoc D Y D', ← cvI_assoc X D]
def KNn (k : K3) : Prop := 0 ≤ k.1 ∧ 0 ≤ k.2.1 ∧ 0 ≤ k.2.2
theorem ltR_add {a b : K3} (ha : KNn a) (hb : KNn b) (i : Nat) : ltR (addK a b) i = cv (ltR a) (ltR b) i := by
  unfold ltR addK
  dsimp only
  rw [Int.toNat_add ha.1 hb.1, Int.toNat_add ha.2.1 hb.2.1, Int.toNat_add ha.2.2 hb.2.2, LT_add, cvI_cast]
theorem cv_addR (p q r : Nat → Rat) (n : Nat) : cv p (fun i => q i + r i) n = cv p q n + cv p r n := by
  rw [cv_comm, cv_add, cv_comm q p, cv_comm r p]
theorem cv_zeroR (p : Nat → Rat) (n : Nat) : cv p (fun _ => 0) n = 0 := by
  have h := cv_addR p (fun _ => 0) (fun _ => 0) n
  rw [show (fun _ : Nat => (0 : Rat) + 0) = fun _ => 0 from funext fun _ => Rat.add_zero 0] at h
  grind
theorem rowS_mulT {x : K3 × Rat} (hx : KNn x.1) : ∀ (ys : List (K3 × Rat)), (∀ y ∈ ys, KNn y.1) → ∀ i, rowS (mulT x ys) i = cv (fun j => x.2 * ltR x.1 j) (rowS ys) i
  | [], _, i => (cv_zeroR _ i).symm
  | y :: r, h, i => by
    have e : cv (fun j => x.2 * ltR x.1 j) (fun j => y.2 * ltR y.1 j) i = x.2 * y.2 * cv (ltR x.1) (ltR y.1) i := by
      rw [show (fun j => x.2 * ltR x.1 j) = fun j => ltR x.1 j * x.2 from funext fun j => Rat.mul_comm _ _, show (fun j => y.2 * ltR y.1 j) = fun j => ltR y.1 j * y.2 from funext fun j => Rat.mul_comm _ _, cv_scale, Rat.mul_comm]
    rw [show mulT x (y :: r) = (addK x.1 y.1, x.2 * y.2) :: mulT x r from rfl, show rowS (y :: r) = fun j => y.2 * ltR y.1 j + rowS r j from funext fun j => rfl, cv_addR, rowS, rowS_mulT hx r (fun z hz => h z (List.mem_cons_of_mem _ hz)) i, e, ltR_add hx (h y List.mem_cons_self)]
theorem rowS_mulL {ys : List (K3 × Rat)} (hy : ∀ y ∈ ys, KNn y.1) (i : Nat) : ∀ (xs l : List (K3 × Rat)), (∀ x ∈ xs, KNn x.1) → rowS (xs.foldl (fun l x => l ++ mulT x ys) l) i = rowS l i + cv (rowS xs) (rowS ys) i
  | [], l, _ => by rw [List.foldl_nil, show rowS [] = fun _ => 0 from funext fun _ => rfl, cv_comm, cv_zeroR, Rat.add_zero]
  | x :: r, l, h => by
    rw [List.foldl_cons, rowS_mulL hy i r _ fun z hz => h z (List.mem_cons_of_mem _ hz), rowS_app, rowS_mulT (h x List.mem_cons_self) ys hy, show rowS (x :: r) = fun j => x.2 * ltR x.1 j + rowS r j from funext fun j => rfl, cv_add, Rat.add_assoc]
/-! sizes of forms -/
theorem Zb.den {B A : Nat} {q : Rat} (h : Zb B A q) (hB : 0 < B) : q.den ∣ B := by
  obtain ⟨z, e, _⟩ := h
  have hBr : ((B : Int) : Rat) ≠ 0 := by
    intro z
    have : (B : Int) = 0 := Rat.intCast_eq_zero_iff.mp z
    omega
  have q1 : q = Rat.divInt z (B : Int) := by
    rw [Rat.divInt_eq_div, ← e, Rat.div_def, Rat.mul_assoc, Rat.mul_inv_cancel _ hBr, Rat.mul_one]
  rw [q1, Rat.den_divInt, if_neg (by omega), Int.natAbs_natCast]
  exact Nat.div_dvd_of_dvd (Int.gcd_dvd_natAbs_left (B : Int) z)
theorem Zb.of_den {B a : Nat} {q : Rat} (hB : 0 < B) (h : q.den ∣ B) (hn : q.num.natAbs < 2 ^ a) : Zb B (2 ^ a * B) q := by
  obtain ⟨c, hc⟩ := h
  refine ⟨q.num * (c : Int), ?_, ?_⟩
  · have dn := q.den_nz
    have dr : ((q.den : Int) : Rat) ≠ 0 := fun z => by
      have := Rat.intCast_eq_zero_iff.mp z
      omega
    have h0 : Rat.divInt q.num (q.den : Int) = q := Rat.num_divInt_den q
    rw [Rat.divInt_eq_div, Rat.div_def] at h0
    have h1 := congrArg (fun z => z * ((q.den : Int) : Rat)) h0
    rw [Rat.mul_assoc, Rat.inv_mul_cancel _ dr, Rat.mul_one] at h1
    rw [hc, Int.natCast_mul, Rat.intCast_mul, ← Rat.mul_assoc, ← h1, Rat.intCast_mul]
  · rw [Int.natAbs_mul, Int.natAbs_natCast]
    refine Nat.mul_le_mul (Nat.le_of_lt hn) ?_
    rw [hc]
    exact Nat.le_mul_of_pos_left c (Nat.pos_of_ne_zero q.den_nz)
def KIn (ts : List (K3 × Rat)) : Prop := ∀ x ∈ ts, (0 ≤ x.1.1 ∧ x.1.1 ≤ 100) ∧ (0 ≤ x.1.2.1 ∧ x.1.2.1 ≤ 100) ∧ (0 ≤ x.1.2.2 ∧ x.1.2.2 ≤ 100)
theorem FW.of_zb {B A a d : Nat} {ts : List (K3 × Rat)} (hk : KIn ts) (hl : ts.length ≤ 1000) (hB : 0 < B) (hB2 : B < 2 ^ d) (hA : A < 2 ^ a) (h : ∀ x ∈ ts, Zb B A x.2) : FW a d ts :=
  ⟨hl, hk, B, hB, hB2, fun x hx => ⟨(h x hx).den hB, ((h x hx).s2 hB hA hB2).1⟩⟩
theorem FOk.zb {w m : Nat} {ts : List (K3 × Rat)} (h : FOk w m ts) : ∃ B, 0 < B ∧ B < 2 ^ 121 ∧ ∀ x ∈ ts, Zb B (2 ^ 161) x.2 := by
  have hlt : lcD 1 (ts.map (·.2)) ≤ 2 ^ 120 := by
    have := lcD_lt (k := 20) (l := ts.map (·.2)) (fun q hq => by
      obtain ⟨x, hx, rfl⟩ := List.mem_map.mp hq
      exact Nat.le_of_lt (h.num x hx).2) (b := 1) (j := 0) (by decide)
    refine Nat.le_trans this (Nat.pow_le_pow_right (by decide) ?_)
    have := h.len
    rw [List.length_map]
    omega
  refine ⟨lcD 1 (ts.map (·.2)), lcD_pos (by decide), Nat.lt_of_le_of_lt hlt (Nat.pow_lt_pow_right (by decide) (by decide)), fun x hx => ?_⟩
  refine (Zb.of_den (a := 40) (lcD_pos (by decide)) (lcD_dvd.2 _ (List.mem_map.mpr ⟨x, hx, rfl⟩)) (h.num x hx).1).mono ?_
  refine Nat.le_trans (Nat.mul_le_mul_left _ hlt) ?_
  rw [← Nat.pow_add]
  exact Nat.pow_le_pow_right (by decide) (by decide)
/-! forms by the number at each key -/
def KW (w : Nat) (k : K3) : Prop := 0 ≤ k.1 ∧ 0 ≤ k.2.1 ∧ 0 ≤ k.2.2 ∧ 2 * k.1 + 4 * k.2.1 + 6 * k.2.2 = (w : Int)
def kw (w : Nat) : List K3 := (List.range (w / 2 + 1)).flatMap fun (p : Nat) => ((List.range ((w - 2 * p) / 4 + 1)).filter fun (q : Nat) => (w - 2 * p - 4 * q) % 6 == 0).map fun (q : Nat) => ((p : Int), (q : Int), (((w - 2 * p - 4 * q) / 6 : Nat) : Int))
theorem kw_mem {w : Nat} {k : K3} : k ∈ kw w ↔ KW w k := by
  unfold kw KW
  simp only [List.mem_flatMap, List.mem_map, List.mem_filter, List.mem_range, beq_iff_eq]
  constructor
  · rintro ⟨p, hp, q, ⟨hq, hm⟩, rfl⟩
    dsimp only
    omega
  · rintro ⟨h1, h2, h3, h4⟩
    obtain ⟨a, b, c⟩ := k
    dsimp only at h1 h2 h3 h4
    refine ⟨a.toNat, by omega, b.toNat, ⟨by omega, by omega⟩, ?_⟩
    have e1 : ((a.toNat : Nat) : Int) = a := by omega
    have e2 : ((b.toNat : Nat) : Int) = b := by omega
    have e3 : (((w - 2 * a.toNat - 4 * b.toNat) / 6 : Nat) : Int) = c := by omega
    rw [e1, e2, e3]
def srtB : List K3 → Bool
  | [] => true
  | k :: r => r.all (fun j => lt3 k j) && srtB r
theorem srtB_ok : ∀ {l : List K3}, srtB l = true → l.Pairwise fun a b => lt3 a b = true
  | [], _ => List.Pairwise.nil
  | k :: r, h => by
    simp only [srtB, Bool.and_eq_true, List.all_eq_true] at h
    exact List.pairwise_cons.mpr ⟨h.1, srtB_ok h.2⟩
theorem kw_all : (List.range 61).all (fun w => srtB (kw w) && decide ((kw w).length ≤ 91)) = true := by decide +kernel
theorem kw_srt {w : Nat} (hw : w ≤ 60) : (kw w).Pairwise fun a b => lt3 a b = true := by
  have h := List.all_eq_true.mp kw_all w (List.mem_range.mpr (by omega))
  simp only [Bool.and_eq_true] at h
  exact srtB_ok h.1
theorem kw_len {w : Nat} (hw : w ≤ 60) : (kw w).length ≤ 91 := by
  have h := List.all_eq_true.mp kw_all w (List.mem_range.mpr (by omega))
  simp only [Bool.and_eq_true, decide_eq_true_eq] at h
  exact h.2
theorem kw_nd {w : Nat} (hw : w ≤ 60) : (kw w).Nodup := (kw_srt hw).imp fun {x y} l e => by
  rw [e] at l
  exact absurd l (by rw [lt3_irrefl]; decide)
def cn (w : Nat) (c : K3 → Rat) : List (K3 × Rat) := ((kw w).filter fun k => decide (c k ≠ 0)).map fun k => (k, c k)
theorem cn_mem {w : Nat} {c : K3 → Rat} {x : K3 × Rat} : x ∈ cn w c ↔ KW w x.1 ∧ c x.1 ≠ 0 ∧ x.2 = c x.1 := by
  unfold cn
  simp only [List.mem_map, List.mem_filter, decide_eq_true_eq, kw_mem]
  constructor
  · rintro ⟨k, ⟨h1, h2⟩, rfl⟩
    exact ⟨h1, h2, rfl⟩
  · rintro ⟨h1, h2, h3⟩
    exact ⟨x.1, ⟨h1, h2⟩, by rw [← h3]⟩
theorem cn_can {w : Nat} (hw : w ≤ 60) (c : K3 → Rat) : Can (cn w c) := by
  refine ⟨List.pairwise_map.mpr ((kw_srt hw).filter _), fun x hx => ?_⟩
  obtain ⟨_, h2, h3⟩ := cn_mem.mp hx
  rw [h3]; exact h2
theorem cn_len {w : Nat} (hw : w ≤ 60) (c : K3 → Rat) : (cn w c).length ≤ 91 := by
  unfold cn
  rw [List.length_map]
  exact Nat.le_trans (List.length_filter_le _ _) (kw_len hw)
theorem lk_cn {w : Nat} (hw : w ≤ 60) {c : K3 → Rat} {k : K3} (hk : KW w k) : lk (cn w c) k = c k := by
  by_cases h : c k = 0
  · rw [h]
    refine lk_none fun hm => ?_
    obtain ⟨x, hx, e⟩ := List.mem_map.mp hm
    obtain ⟨_, h2, _⟩ := cn_mem.mp hx
    rw [e] at h2
    exact h2 h
  · exact lk_mem (cn_can hw c).nd (x := (k, c k)) (cn_mem.mpr ⟨hk, h, rfl⟩)
theorem lk_cn0 {w : Nat} {c : K3 → Rat} {k : K3} (hk : ¬ KW w k) : lk (cn w c) k = 0 := lk_none fun hm => by
  obtain ⟨x, hx, e⟩ := List.mem_map.mp hm
  exact hk (e ▸ (cn_mem.mp hx).1)
theorem cn_congr {w : Nat} {c c' : K3 → Rat} (h : ∀ k, KW w k → c k = c' k) : cn w c = cn w c' := by
  unfold cn
  have e : (kw w).filter (fun k => decide (c k ≠ 0)) = (kw w).filter fun k => decide (c' k ≠ 0) := List.filter_congr fun k hk => by rw [h k (kw_mem.mp hk)]
  rw [e]
  exact List.map_congr_left fun k hk => by rw [h k (kw_mem.mp (List.mem_filter.mp hk).1)]
theorem cn_of {w : Nat} (hw : w ≤ 60) {ts : List (K3 × Rat)} (h : Can ts) (hk : ∀ x ∈ ts, KW w x.1) {c : K3 → Rat} (hc : ∀ k, KW w k → lk ts k = c k) : ts = cn w c := by
  refine h.uniq (cn_can hw c) fun k => ?_
  by_cases q : KW w k
  · rw [lk_cn hw q, hc k q]
  · rw [lk_cn0 q]
    exact lk_none fun hm => by
      obtain ⟨x, hx, e⟩ := List.mem_map.mp hm
      exact q (e ▸ hk x hx)
theorem lsm_cn {w : Nat} (hw : w ≤ 60) {c : K3 → Rat} {k : K3} (hk : KW w k) : lsm (cn w c) k = c k := by rw [lsm_lk (cn_can hw c).nodup, lk_cn hw hk]
theorem lsm_cn0 {w : Nat} (hw : w ≤ 60) {c : K3 → Rat} {k : K3} (hk : ¬ KW w k) : lsm (cn w c) k = 0 := by rw [lsm_lk (cn_can hw c).nodup, lk_cn0 hk]
def FD (w : Nat) (c : K3 → Rat) : D := formD w (cn w c)
theorem FD_congr {w : Nat} {c c' : K3 → Rat} (h : ∀ k, KW w k → c k = c' k) : FD w c = FD w c' := by unfold FD; rw [cn_congr h]
theorem term_ok (x : K3 × Rat) : eqOk 10 (termD x) = true := rfl
theorem FD_ok (w : Nat) (c : K3 → Rat) : eqOk 12 (FD w c) = true := by
  show ([D.int w, .tup ((cn w c).map termD)].all (eqOk 11)) = true
  have e : ((cn w c).map termD).all (eqOk 10) = true := by
    rw [List.all_map, List.all_eq_true]
    exact fun x _ => term_ok x
  have e2 : eqOk 11 (.tup ((cn w c).map termD)) = true := e
  simp only [List.all_cons, List.all_nil, e2, Bool.and_true]
  rfl
theorem ne_FD {w : Nat} {c c' : K3 → Rat} (h : ∀ k, KW w k → c k = c' k) : cmpV .ne (FD w c) (FD w c') = .ok false := by
  rw [FD_congr h]
  exact ne_self' (FD_ok w c')
theorem FD_ix0 (w : Nat) (c : K3 → Rat) : idxV (FD w c) (.int 0) = .ok (.int w) := ixT0 _ _
theorem FD_ix1 (w : Nat) (c : K3 → Rat) : idxV (FD w c) (.int 1) = .ok (.tup ((cn w c).map termD)) := ixT1 _ _ _
def SZ (w b a : Nat) (c : K3 → Rat) : Prop := ∃ B : Nat, 0 < B ∧ B < 2 ^ b ∧ ∀ k, KW w k → Zb B (2 ^ a) (c k)
theorem SZ.mono {w b a b' a' : Nat} {c : K3 → Rat} (h : SZ w b a c) (hb : b ≤ b') (ha : a ≤ a') : SZ w b' a' c := by
  obtain ⟨B, h1, h2, h3⟩ := h
  exact ⟨B, h1, Nat.lt_of_lt_of_le h2 (Nat.pow_le_pow_right (by decide) hb), fun k hk => (h3 k hk).mono (Nat.pow_le_pow_right (by decide) ha)⟩
theorem SZ.congr {w b a : Nat} {c c' : K3 → Rat} (h : SZ w b a c) (e : ∀ k, KW w k → c k = c' k) : SZ w b a c' := by
  obtain ⟨B, h1, h2, h3⟩ := h
  exact ⟨B, h1, h2, fun k hk => by rw [← e k hk]; exact h3 k hk⟩
theorem Zb.up {B A : Nat} {q : Rat} (h : Zb B A q) (M : Nat) : Zb (B * M) (A * M) q := by
  obtain ⟨z, e, l⟩ := h
  refine ⟨z * (M : Int), ?_, by rw [Int.natAbs_mul, Int.natAbs_natCast]; exact Nat.mul_le_mul_right M l⟩
  rw [Rat.intCast_mul, ← e, Int.natCast_mul, Rat.intCast_mul, Rat.mul_assoc]
theorem Zb.upL {B A : Nat} {q : Rat} (h : Zb B A q) (M : Nat) : Zb (M * B) (A * M) q := by
  rw [Nat.mul_comm]; exact h.up M
theorem SZ.two {w w' b a b' a' : Nat} {c c' : K3 → Rat} (h : SZ w b a c) (h' : SZ w' b' a' c') : ∃ B : Nat, 0 < B ∧ B < 2 ^ (b + b') ∧ (∀ k, KW w k → Zb B (2 ^ (a + b')) (c k)) ∧ ∀ k, KW w' k → Zb B (2 ^ (a' + b)) (c' k) := by
  obtain ⟨B, h1, h2, h3⟩ := h
  obtain ⟨B', g1, g2, g3⟩ := h'
  refine ⟨B * B', Nat.mul_pos h1 g1, mul_lt h2 g2, fun k hk => ((h3 k hk).up B').mono ?_, fun k hk => ((g3 k hk).upL B).mono ?_⟩
  · rw [Nat.pow_add]; exact Nat.mul_le_mul_left _ (Nat.le_of_lt g2)
  · rw [Nat.pow_add]; exact Nat.mul_le_mul_left _ (Nat.le_of_lt h2)
theorem SZ.cn {w b a : Nat} {c : K3 → Rat} (h : SZ w b a c) : ∃ B : Nat, 0 < B ∧ B < 2 ^ b ∧ ∀ x ∈ cn w c, Zb B (2 ^ a) x.2 := by
  obtain ⟨B, h1, h2, h3⟩ := h
  refine ⟨B, h1, h2, fun x hx => ?_⟩
  obtain ⟨g1, _, g3⟩ := cn_mem.mp hx
  rw [g3]; exact h3 _ g1
theorem SZ.s2 {w b a : Nat} {c : K3 → Rat} (h : SZ w b a c) {k : K3} (hk : KW w k) : S2 (a + 1) b (c k) := by
  obtain ⟨B, h1, h2, h3⟩ := h
  exact (h3 k hk).s2 h1 (Nat.pow_lt_pow_right (by decide) (Nat.lt_succ_self a)) h2
theorem SZ.s2m {w b a : Nat} {c : K3 → Rat} (h : SZ w b a c) {x : K3 × Rat} (hx : x ∈ Hx.cn w c) : S2 (a + 1) b x.2 := by
  obtain ⟨g1, _, g3⟩ := cn_mem.mp hx
  rw [g3]; exact h.s2 g1
theorem KW.in {w : Nat} (hw : w ≤ 60) {k : K3} (h : KW w k) : (0 ≤ k.1 ∧ k.1 ≤ 30) ∧ (0 ≤ k.2.1 ∧ k.2.1 ≤ 15) ∧ (0 ≤ k.2.2 ∧ k.2.2 ≤ 10) := by
  obtain ⟨h1, h2, h3, h4⟩ := h
  omega
theorem SZ.fw {w b a : Nat} {c : K3 → Rat} (h : SZ w b a c) (hw : w ≤ 60) : FW (a + 1) b (Hx.cn w c) := by
  obtain ⟨B, h1, h2, h3⟩ := h.cn
  refine FW.of_zb (fun x hx => ?_) (Nat.le_trans (cn_len hw c) (by decide)) h1 h2 (Nat.pow_lt_pow_right (by decide) (Nat.lt_succ_self a)) h3
  have := (cn_mem.mp hx).1.in hw
  omega
theorem gathered_cn {n w b a : Nat} {xs : List (K3 × Rat)} {e : D} (hw : w ≤ 60) (he : e = .tup (xs.map termD) ∨ e = .lst (xs.map termD)) (hk : ∀ x ∈ xs, KW w x.1) (hx : ∃ B : Nat, 0 < B ∧ B < 2 ^ b ∧ ∀ x ∈ xs, Zb B (2 ^ a) x.2) (hl : xs.length < 2 ^ 16) (hb : b ≤ 4500) (ha : a ≤ 10000000) :
    call P C (n + 4) n_gathered [.int w, e] = .ok (FD w (lsm xs)) ∧ SZ w b (a + 16) (lsm xs) := by
  obtain ⟨B, h1, h2, h3⟩ := hx
  have hA : xs.length * 2 ^ a + 2 ^ a ≤ 2 ^ (a + 16) := by
    rw [Nat.pow_add, Nat.mul_comm (2 ^ a)]
    have : xs.length * 2 ^ a + 2 ^ a = (xs.length + 1) * 2 ^ a := by rw [Nat.succ_mul]
    rw [this]
    exact Nat.mul_le_mul_right _ hl
  obtain ⟨ts, g1, g2, g3, g4, g5⟩ := gathered_at (n := n) (w := (w : Int)) (xs := xs) (a := a + 17) he h1 h2 (by omega) h3 (Nat.lt_of_le_of_lt hA (Nat.pow_lt_pow_right (by decide) (by omega))) (by omega) (by omega)
  refine ⟨?_, B, h1, h2, fun k _ => (lsm_zb h3 k).mono (Nat.le_trans (Nat.le_add_right _ _) hA)⟩
  rw [g5, FD, cn_of hw g1 (fun x hx => by
    obtain ⟨y, hy, e⟩ := g3 x hx
    rw [← e]; exact hk y hy) fun k _ => g2 k]
theorem form_sum_cn {n w b a b' a' : Nat} {c c' : K3 → Rat} (hw : w ≤ 60) (h : SZ w b a c) (h' : SZ w b' a' c') (hb : b + b' ≤ 4500) (ha : a ≤ 4000000) (ha' : a' ≤ 4000000) :
    call P C (n + 5) n_form_sum [FD w c, FD w c'] = .ok (FD w fun k => c k + c' k) ∧ SZ w (b + b') (a + a' + b + b' + 16) fun k => c k + c' k := by
  obtain ⟨B, h1, h2, h3, h4⟩ := h.two h'
  have l1 := cn_len hw c
  have l2 := cn_len hw c'
  have e : ∀ k, KW w k → lsm (cn w c ++ cn w c') k = c k + c' k := fun k hk => by rw [lsm_app, lsm_cn hw hk, lsm_cn hw hk]
  obtain ⟨g1, g2⟩ := gathered_cn (n := n) (w := w) (b := b + b') (a := a + a' + b + b') (xs := cn w c ++ cn w c') hw (.inl rfl) (fun x hx => (List.mem_append.mp hx).elim (fun h => (cn_mem.mp h).1) fun h => (cn_mem.mp h).1)
    ⟨B, h1, h2, fun x hx => (List.mem_append.mp hx).elim (fun h => by
      obtain ⟨q1, _, q3⟩ := cn_mem.mp h
      rw [q3]; exact (h3 _ q1).mono (Nat.pow_le_pow_right (by decide) (by omega))) fun h => by
      obtain ⟨q1, _, q3⟩ := cn_mem.mp h
      rw [q3]; exact (h4 _ q1).mono (Nat.pow_le_pow_right (by decide) (by omega))⟩ (by rw [List.length_append]; omega) (by omega) (by omega)
  refine ⟨?_, g2.congr e⟩
  rw [FD_congr e] at g1
  refine call_run rfl rfl (ρ := [.sh (FD w c), .sh (FD w c')]) rfl ?_
  rw [List.map_append] at g1
  have bb : Rv.bin .add (.tup ((cn w c).map termD)) (.tup ((cn w c').map termD)) = .ok (.tup ((cn w c).map termD ++ (cn w c').map termD)) := bin_catT (by simp [LL]; omega)
  unfold fd_form_sum
  rw [s_ifF0 (ev_cmpB (x := .int w) (y := .int w) (k := false) (by simp [FD_ix0]) (by simp [FD_ix0]) (by rw [ne_int]; simp))]
  rw [s_ret (d := FD w fun k => c k + c' k) (by
    simp only [ev_call, evs_cons, evs_nil, ev_idx, ev_var, ev_int, ev_bin, List.getElem?_cons_succ, List.getElem?_cons_zero, R.bind_ok, FD_ix0, FD_ix1, bb, g1])]
  rfl
theorem form_times_cn {n w b a d e : Nat} {c : K3 → Rat} {q : Rat} (hw : w ≤ 60) (h : SZ w b a c) (hq : S2 d e q) (hb : b + e ≤ 4500) (ha : a ≤ 4000000) (hd : d ≤ 4000000) :
    call P C (n + 5) n_form_times [FD w c, frD q] = .ok (FD w fun k => c k * q) ∧ SZ w (b + e) (a + d + 16) fun k => c k * q := by
  obtain ⟨B, h1, h2, h3⟩ := h
  have l1 := cn_len hw c
  have qz : Zb q.den (2 ^ d) q := ⟨q.num, (num_eq q).symm, Nat.le_of_lt hq.1⟩
  have qp : 0 < q.den := Nat.pos_of_ne_zero q.den_nz
  have es : ∀ k, KW w k → lsm ((cn w c).map fun x => (x.1, x.2 * q)) k = c k * q := fun k hk => by
    have key : ∀ xs : List (K3 × Rat), lsm (xs.map fun x => (x.1, x.2 * q)) k = lsm xs k * q := fun xs => by
      induction xs with
      | nil => exact (Rat.zero_mul q).symm
      | cons x r ih =>
        rw [List.map_cons, lsm, lsm, ih, Rat.add_mul]
        dsimp only
        split
        · rfl
        · rw [Rat.zero_mul]
    rw [key, lsm_cn hw hk]
  obtain ⟨g1, g2⟩ := gathered_cn (n := n) (w := w) (b := b + e) (a := a + d) (xs := (cn w c).map fun x => (x.1, x.2 * q)) hw (.inr rfl) (fun x hx => by
      obtain ⟨y, hy, rfl⟩ := List.mem_map.mp hx
      exact (cn_mem.mp hy).1)
    ⟨B * q.den, Nat.mul_pos h1 qp, mul_lt h2 hq.2, fun x hx => by
      obtain ⟨y, hy, rfl⟩ := List.mem_map.mp hx
      obtain ⟨q1, _, q3⟩ := cn_mem.mp hy
      dsimp only
      rw [q3, Nat.pow_add]
      exact (h3 _ q1).mul qz⟩ (by rw [List.length_map]; omega) (by omega) (by omega)
  refine ⟨?_, g2.congr es⟩
  rw [FD_congr es] at g1
  have hll : (cn w c).length ≤ LL := by unfold LL; omega
  refine call_run rfl rfl (ρ := [.sh (FD w c), .sh (frD q), .un, .un, .un, .un]) rfl ?_
  have cp : ∀ b, ev (call P C (n + 4)) C [.sh (FD w c), .sh (frD q), .un, .un, .un, .un] b cp_form_times_0 = .ok (.lst ((cn w c).map fun x => termD (x.1, x.2 * q))) := fun b => by
    unfold cp_form_times_0
    refine comp_map termD _ (by simp [FD_ix1]) hll fun x hx => ⟨[.sh (FD w c), .sh (frD q), .sh (.int x.1.1), .sh (.int x.1.2.1), .sh (.int x.1.2.2), .sh (frD x.2)], by simp [termD, wipeE, stE_nl], ?_⟩
    have s := SZ.s2m (w := w) ⟨B, h1, h2, h3⟩ hx
    have t := times_at2 (n := n + 1) s hq (by omega) (by omega) (by omega)
    have t : call P C (n + 4) n_times [frD x.2, frD q] = .ok (frD (x.2 * q)) := t
    simp [t, termD, LL]
  rw [List.map_map] at g1
  unfold fd_form_times
  rw [s_ret (d := FD w fun k => c k * q) (by
    simp only [ev_call, evs_cons, evs_nil, ev_idx, ev_var, ev_int, cp, List.getElem?_cons_succ, List.getElem?_cons_zero, R.bind_ok, FD_ix0]
    exact g1)]
  rfl
theorem FOk.cn {w m : Nat} (hw : w ≤ 60) {ts : List (K3 × Rat)} (hc : Can ts) (h : FOk w m ts) : formD w ts = FD w (lk ts) ∧ SZ w 121 161 (lk ts) ∧ ∀ k, KW w k → lk ts k ≠ 0 → k.1 ≤ m := by
  have hk : ∀ x ∈ ts, KW w x.1 := fun x hx => by
    have a := h.key x hx
    exact ⟨a.p0, a.q0, a.r0, a.wt⟩
  obtain ⟨B, h1, h2, h3⟩ := h.zb
  refine ⟨by unfold FD; rw [← cn_of hw hc hk fun k _ => rfl], ⟨B, h1, h2, fun k _ => ?_⟩, fun k _ hz => ?_⟩
  · by_cases q : k ∈ ts.map (·.1)
    · exact h3 _ (lk_in q)
    · rw [lk_none q]; exact Zb.zero B _
  · by_cases q : k ∈ ts.map (·.1)
    · exact (h.key _ (lk_in q)).pm
    · rw [lk_none q] at hz; exact absurd rfl hz
theorem l_a_form_cn {n w m M : Nat} {l : List Int} (hl : Dr M 1000 l) (hM : 43 ≤ M) (hw : w ≤ 60) : ∃ c, SZ w 121 161 c ∧ (∀ k, KW w k → c k ≠ 0 → k.1 ≤ m) ∧ call P C (n + 5) n_l_a_form [lsI l, .int (w : Int), .int (m : Int)] = .ok (FD w c) := by
  obtain ⟨ts, h1, h2, h3⟩ := l_a_form_at (n := n) (w := w) (m := m) hl hM hw
  obtain ⟨g1, g2, g3⟩ := h2.cn hw h1
  exact ⟨lk ts, g2, g3, by rw [h3, g1]⟩
/-! sums over terms depend on the number of each key alone -/
def ws (f : K3 → Rat) : List (K3 × Rat) → Rat
  | [] => 0
  | x :: r => x.2 * f x.1 + ws f r
def wK (f : K3 → Rat) : List K3 → (K3 → Rat) → Rat
  | [], _ => 0
  | k :: r, c => c k * f k + wK f r c
theorem ws_app (f : K3 → Rat) (a b : List (K3 × Rat)) : ws f (a ++ b) = ws f a + ws f b := by
  induction a with
  | nil => rw [List.nil_append, ws, Rat.zero_add]
  | cons x r ih => rw [List.cons_append, ws, ws, ih, Rat.add_assoc]
theorem wK_add (f : K3 → Rat) (K : List K3) (c c' : K3 → Rat) : wK f K (fun k => c k + c' k) = wK f K c + wK f K c' := by
  induction K with
  | nil => exact (Rat.add_zero 0).symm
  | cons k r ih => simp only [wK]; rw [ih]; grind
theorem wK_congr (f : K3 → Rat) {K : List K3} {c c' : K3 → Rat} (h : ∀ k ∈ K, c k = c' k) : wK f K c = wK f K c' := by
  induction K with
  | nil => rfl
  | cons k r ih => simp only [wK]; rw [h k List.mem_cons_self, ih fun j hj => h j (List.mem_cons_of_mem _ hj)]
theorem wK_zero (f : K3 → Rat) (K : List K3) : wK f K (fun _ => 0) = 0 := by
  induction K with
  | nil => rfl
  | cons k r ih => simp only [wK]; rw [ih, Rat.zero_mul, Rat.add_zero]
theorem wK_one (f : K3 → Rat) {K : List K3} (nd : K.Nodup) {j : K3} {q : Rat} (h : j ∈ K) : wK f K (fun k => if j = k then q else 0) = q * f j := by
  induction K with
  | nil => cases h
  | cons k r ih =>
    rw [List.nodup_cons] at nd
    simp only [wK]
    by_cases c : j = k
    · rw [if_pos c, wK_congr f (c' := fun _ => 0) fun x hx => if_neg fun e => nd.1 (by rw [← c, e]; exact hx), wK_zero, Rat.add_zero, c]
    · rw [if_neg c, Rat.zero_mul, Rat.zero_add]
      exact ih nd.2 ((List.mem_cons.mp h).resolve_left c)
theorem ws_K (f : K3 → Rat) {K : List K3} (nd : K.Nodup) : ∀ (xs : List (K3 × Rat)), (∀ x ∈ xs, x.1 ∈ K) → ws f xs = wK f K (lsm xs)
  | [], _ => (wK_zero f K).symm
  | x :: r, h => by
    rw [show lsm (x :: r) = fun k => (if x.1 = k then x.2 else 0) + lsm r k from rfl, wK_add, wK_one f nd (h x List.mem_cons_self), ws, ws_K f nd r fun y hy => h y (List.mem_cons_of_mem _ hy)]
theorem ws_same (f : K3 → Rat) {xs ys : List (K3 × Rat)} (h : ∀ k, lsm xs k = lsm ys k) : ws f xs = ws f ys := by
  obtain ⟨K, h1, h2⟩ := nodup_over (xs.map (·.1) ++ ys.map (·.1))
  rw [ws_K f h1 xs fun x hx => h2 _ (List.mem_append.mpr (.inl (List.mem_map.mpr ⟨x, hx, rfl⟩))), ws_K f h1 ys fun x hx => h2 _ (List.mem_append.mpr (.inr (List.mem_map.mpr ⟨x, hx, rfl⟩)))]
  exact wK_congr f fun k _ => h k
theorem ws_fun {f g : K3 → Rat} {xs : List (K3 × Rat)} (h : ∀ x ∈ xs, f x.1 = g x.1) : ws f xs = ws g xs := by
  induction xs with
  | nil => rfl
  | cons x r ih => rw [ws, ws, h x List.mem_cons_self, ih fun y hy => h y (List.mem_cons_of_mem _ hy)]
theorem ws_add (f g : K3 → Rat) (xs : List (K3 × Rat)) : ws (fun k => f k + g k) xs = ws f xs + ws g xs := by
  induction xs with
  | nil => exact (Rat.add_zero 0).symm
  | cons x r ih => rw [ws, ws, ws, ih]; grind
theorem ws_mul (f : K3 → Rat) (q : Rat) (xs : List (K3 × Rat)) : ws (fun k => q * f k) xs = q * ws f xs := by
  induction xs with
  | nil => exact (Rat.mul_zero q).symm
  | cons x r ih => rw [ws, ws, ih]; grind
theorem rowS_ws (xs : List (K3 × Rat)) (i : Nat) : rowS xs i = ws (fun k => ltR k i) xs := by
  induction xs with
  | nil => rfl
  | cons x r ih => rw [rowS, ws, ih]
theorem lsm_ws (xs : List (K3 × Rat)) (k : K3) : lsm xs k = ws (fun j => if j = k then 1 else 0) xs := by
  induction xs with
  | nil => rfl
  | cons x r ih =>
    rw [lsm, ws, ih]
    split
    · rw [Rat.mul_one]
    · rw [Rat.mul_zero]
theorem lsm_none {xs : List (K3 × Rat)} {k : K3} (h : ∀ x ∈ xs, x.1 ≠ k) : lsm xs k = 0 := by
  induction xs with
  | nil => rfl
  | cons x r ih => rw [lsm, if_neg (h x List.mem_cons_self), ih fun y hy => h y (List.mem_cons_of_mem _ hy), Rat.zero_add]
theorem lsm_gat {w : Nat} (hw : w ≤ 60) {xs : List (K3 × Rat)} (hk : ∀ x ∈ xs, KW w x.1) (k : K3) : lsm (cn w (lsm xs)) k = lsm xs k := by
  by_cases q : KW w k
  · exact lsm_cn hw q
  · rw [lsm_cn0 hw q, lsm_none fun x hx e => q (by rw [← e]; exact hk x hx)]
def rwF (w : Nat) (c : K3 → Rat) (i : Nat) : Rat := rowS (cn w c) i
theorem rwF_gat {w : Nat} (hw : w ≤ 60) {xs : List (K3 × Rat)} (hk : ∀ x ∈ xs, KW w x.1) (i : Nat) : rwF w (lsm xs) i = rowS xs i := rowS_same (fun k => lsm_gat hw hk k) i
theorem rwF_congr {w : Nat} {c c' : K3 → Rat} (h : ∀ k, KW w k → c k = c' k) (i : Nat) : rwF w c i = rwF w c' i := by unfold rwF; rw [cn_congr h]
theorem rwF_add {w : Nat} (hw : w ≤ 60) (c c' : K3 → Rat) (i : Nat) : rwF w (fun k => c k + c' k) i = rwF w c i + rwF w c' i := by
  unfold rwF
  rw [← rowS_app]
  refine rowS_same (fun k => ?_) i
  rw [lsm_app]
  by_cases q : KW w k
  · rw [lsm_cn hw q, lsm_cn hw q, lsm_cn hw q]
  · rw [lsm_cn0 hw q, lsm_cn0 hw q, lsm_cn0 hw q, Rat.add_zero]
theorem rowS_mulq (xs : List (K3 × Rat)) (q : Rat) (i : Nat) : rowS (xs.map fun x => (x.1, x.2 * q)) i = rowS xs i * q := by
  induction xs with
  | nil => exact (Rat.zero_mul q).symm
  | cons x r ih => rw [List.map_cons, rowS, rowS, ih]; grind
theorem lsm_mulq (xs : List (K3 × Rat)) (q : Rat) (k : K3) : lsm (xs.map fun x => (x.1, x.2 * q)) k = lsm xs k * q := by
  induction xs with
  | nil => exact (Rat.zero_mul q).symm
  | cons x r ih =>
    rw [List.map_cons, lsm, lsm, ih, Rat.add_mul]
    dsimp only
    split
    · rfl
    · rw [Rat.zero_mul]
theorem rwF_mul {w : Nat} (hw : w ≤ 60) (c : K3 → Rat) (q : Rat) (i : Nat) : rwF w (fun k => c k * q) i = rwF w c i * q := by
  unfold rwF
  rw [← rowS_mulq]
  refine rowS_same (fun k => ?_) i
  rw [lsm_mulq]
  by_cases h : KW w k
  · rw [lsm_cn hw h, lsm_cn hw h]
  · rw [lsm_cn0 hw h, lsm_cn0 hw h, Rat.zero_mul]
/-! products -/
def mulC (w w' : Nat) (c c' : K3 → Rat) : K3 → Rat := lsm (mulL (cn w c) (cn w' c'))
theorem KW.add {w w' : Nat} {a b : K3} (ha : KW w a) (hb : KW w' b) : KW (w + w') (addK a b) := by
  obtain ⟨a1, a2, a3, a4⟩ := ha
  obtain ⟨b1, b2, b3, b4⟩ := hb
  unfold KW addK
  dsimp only
  omega
theorem mulL_KW {w w' : Nat} {c c' : K3 → Rat} : ∀ x ∈ mulL (cn w c) (cn w' c'), KW (w + w') x.1 := fun x hx => by
  rcases mulL_mem (cn w' c') (cn w c) [] hx with h | ⟨y, hy, z, hz, rfl⟩
  · cases h
  · exact (cn_mem.mp hy).1.add (cn_mem.mp hz).1
theorem form_product_cn {n w w' b a b' a' : Nat} {c c' : K3 → Rat} (hw : w + w' ≤ 60) (h : SZ w b a c) (h' : SZ w' b' a' c') (hb : b + b' ≤ 4500) (ha : a ≤ 1000000) (ha' : a' ≤ 1000000) :
    call P C (n + 5) n_form_product [FD w c, FD w' c'] = .ok (FD (w + w') (mulC w w' c c')) ∧ SZ (w + w') (b + b') (a + a' + 14) (mulC w w' c c') := by
  have l1 := cn_len (show w ≤ 60 by omega) c
  have l2 := cn_len (show w' ≤ 60 by omega) c'
  obtain ⟨B, h1, h2, h3⟩ := h.cn
  obtain ⟨B', g1, g2, g3⟩ := h'.cn
  have lb : (cn w c).length * (cn w' c').length ≤ 91 * 91 := Nat.mul_le_mul l1 l2
  have hz : ∀ x ∈ cn w c, ∀ y ∈ cn w' c', Zb (B * B') (2 ^ a * 2 ^ a') (x.2 * y.2) := fun x hx y hy => (h3 x hx).mul (g3 y hy)
  have hA : (cn w c).length * (cn w' c').length * (2 ^ a * 2 ^ a') + 2 ^ a * 2 ^ a' ≤ 2 ^ (a + a' + 14) := by
    rw [Nat.pow_add 2 (a + a') 14, Nat.pow_add 2 a a', Nat.mul_comm (2 ^ a * 2 ^ a') (2 ^ 14)]
    rw [show ∀ x y : Nat, x * y + y = (x + 1) * y from fun x y => by rw [Nat.succ_mul]]
    exact Nat.mul_le_mul_right _ (by omega)
  obtain ⟨ts, t1, t2, t3, t4, t5⟩ := form_product_at (n := n) (A := a + a' + 1) (E := b + b') (B := B * B') (A' := 2 ^ a * 2 ^ a') (a := a + a' + 15) (d := b + b') (w := (w : Int)) (w' := (w' : Int)) (xs := cn w c) (ys := cn w' c') (by omega)
    (fun x hx => (h.s2m hx).mono (by omega) (by omega)) (fun x hx => (h'.s2m hx).mono (by omega) (by omega)) (by omega) (by omega) (by omega) (by omega) (Nat.mul_pos h1 g1) (mul_lt h2 g2) (by omega) hz
    (Nat.lt_of_le_of_lt hA (Nat.pow_lt_pow_right (by decide) (by omega))) (by omega)
  have hk : ∀ x ∈ ts, KW (w + w') x.1 := fun x hx => by
    obtain ⟨y, hy, z, hz, e⟩ := t3 x hx
    rw [e]; exact (cn_mem.mp hy).1.add (cn_mem.mp hz).1
  refine ⟨?_, B * B', Nat.mul_pos h1 g1, mul_lt h2 g2, fun k _ => ?_⟩
  · have e : formD ((w : Int) + (w' : Int)) ts = FD (w + w') (mulC w w' c c') := by
      have e2 : ts = cn (w + w') (mulC w w' c c') := cn_of hw t1 hk fun k _ => t2 k
      rw [FD, ← e2, Int.natCast_add]
    rw [← e]
    exact t5
  · have zz := lsm_zb (B := B * B') (A := 2 ^ a * 2 ^ a') (xs := mulL (cn w c) (cn w' c')) (fun x hx => by
      rcases mulL_mem (cn w' c') (cn w c) [] hx with h | ⟨y, hy, z, hz', rfl⟩
      · cases h
      · exact hz y hy z hz') k
    refine zz.mono (Nat.le_trans ?_ hA)
    rw [show (mulL (cn w c) (cn w' c')).length = (cn w c).length * (cn w' c').length by rw [mulL, mulL_len]; simp]
    exact Nat.le_add_right _ _
theorem form_product_no {n w w' : Nat} {c c' : K3 → Rat} (hw : 60 < w + w') : call P C (n + 2) n_form_product [FD w c, FD w' c'] = .exc ex_TooHeavy := by
  have c0 : C gl_HEAVIEST = .int 60 := rfl
  have cw : call P C (n + 1) n_check_weight [.int ((w : Int) + (w' : Int))] = .exc ex_TooHeavy := by
    have nn : (60 : Int) < (w : Int) + (w' : Int) := by omega
    refine call_run rfl rfl (ρ := [.sh (.int ((w : Int) + (w' : Int)))]) rfl ?_
    simp [fd_check_weight, c0, nn]
  refine call_run rfl rfl (ρ := [.sh (FD w c), .sh (FD w' c'), .un, .un, .un, .un, .un, .un, .un, .un, .un]) rfl ?_
  simp [fd_form_product, FD_ix0, cw]
theorem rwF_prod {w w' : Nat} (hw : w + w' ≤ 60) (c c' : K3 → Rat) (i : Nat) : rwF (w + w') (mulC w w' c c') i = cv (rwF w c) (rwF w' c') i := by
  unfold mulC
  rw [rwF_gat hw mulL_KW]
  unfold mulL
  have nn : ∀ {w : Nat} {c : K3 → Rat}, ∀ x ∈ cn w c, KNn x.1 := fun {w c} x hx => by
    obtain ⟨h1, h2, h3, _⟩ := (cn_mem.mp hx).1
    exact ⟨h1, h2, h3⟩
  rw [rowS_mulL nn i _ _ nn, show rowS [] i = 0 from rfl, Rat.zero_add]
  rfl
/-! powers -/
def powC (w : Nat) (c : K3 → Rat) : Nat → K3 → Rat
  | 0 => fun _ => 1
  | j + 1 => mulC (w * j) w (powC w c j) c
theorem FD_one : FD 0 (fun _ => 1) = .tup [.int 0, .tup [.tup [.int 0, .int 0, .int 0, frD 1]]] := rfl
theorem SZ_one : SZ 0 1 1 (fun _ => 1) := ⟨1, by decide, by decide, fun k _ => ⟨1, Rat.mul_one 1, by decide⟩⟩
theorem rwF_one (i : Nat) : rwF 0 (fun _ => 1) i = one' i := by
  show (1 : Rat) * ltR (0, 0, 0) i + 0 = one' i
  rw [Rat.add_zero, Rat.one_mul]
  unfold ltR LT
  show ((cvI (cvI (pwI (whW 0) 0) (pwI (whW 1) 0)) (pwI (whW 2) 0) i : Int) : Rat) = one' i
  simp only [pwI]
  rw [cvI_one, cvI_one]
  exact congrFun oneI_cast i
theorem rwF_pow {w p : Nat} (hw : w * p ≤ 60) (c : K3 → Rat) : ∀ j, j ≤ p → ∀ i, rwF (w * j) (powC w c j) i = pwr (rwF w c) j i
  | 0, _, i => rwF_one i
  | j + 1, hj, i => by
    have e1 : w * (j + 1) ≤ w * p := Nat.mul_le_mul_left w hj
    rw [Nat.mul_succ] at e1
    show rwF (w * j + w) (mulC (w * j) w (powC w c j) c) i = cv (pwr (rwF w c) j) (rwF w c) i
    rw [rwF_prod (by omega)]
    exact cv_congr (fun k _ => rwF_pow hw c j (by omega) k) fun _ _ => rfl
/-! sizes of rows of forms -/
theorem rowS_zb {B A : Nat} {xs : List (K3 × Rat)} (hx : ∀ x ∈ xs, Zb B A x.2) (hk : KIn xs) {i : Nat} (hi : i < 1000) : Zb B (xs.length * (A * 2 ^ 33010)) (rowS xs i) := by
  induction xs with
  | nil => exact Zb.zero B _
  | cons x r ih =>
    rw [List.length_cons, Nat.succ_mul, Nat.add_comm, rowS]
    refine Zb.add ?_ (ih (fun y hy => hx y (List.mem_cons_of_mem _ hy)) fun y hy => hk y (List.mem_cons_of_mem _ hy))
    have k := hk x List.mem_cons_self
    have l : Zb 1 (2 ^ 33010) (ltR x.1 i) := ⟨LT x.1.1.toNat x.1.2.1.toNat x.1.2.2.toNat i, by
      unfold ltR
      exact Rat.mul_one _, Nat.le_of_lt (LT_lt (by omega) (by omega) (by omega) i hi)⟩
    have m := (hx x List.mem_cons_self).mul l
    rw [Nat.mul_one] at m
    exact m
theorem cn_kin {w : Nat} (hw : w ≤ 60) (c : K3 → Rat) : KIn (cn w c) := fun x hx => by
  have := (cn_mem.mp hx).1.in hw
  omega
theorem SZ.rw {w b a m : Nat} {c : K3 → Rat} (h : SZ w b a c) (hw : w ≤ 60) (hm : m ≤ 1000) : Rw (a + 33018) b (tab m (rwF w c)) := by
  obtain ⟨B, h1, h2, h3⟩ := h.cn
  obtain ⟨L, hL⟩ : ∃ L : Nat, L = 33010 := ⟨_, rfl⟩
  have eL : a + 33018 = a + L + 8 := by omega
  have l := cn_len hw c
  have key : (Hx.cn w c).length * (2 ^ a * 2 ^ L) < 2 ^ (a + L + 8) := by
    rw [← Nat.pow_add, Nat.pow_add 2 (a + L) 8, Nat.mul_comm (2 ^ (a + L))]
    have p := Nat.two_pow_pos (a + L)
    exact Nat.lt_of_le_of_lt (Nat.mul_le_mul_right _ l) (Nat.mul_lt_mul_of_pos_right (by decide) p)
  rw [eL]
  refine rw_mk hm h1 h2 fun i hi => ?_
  have z := rowS_zb h3 (cn_kin hw c) (i := i) (by omega)
  rw [← hL] at z
  exact ⟨z.den h1, (z.s2 h1 key h2).1⟩
/-! products of forms, laws -/
theorem addK_comm (a b : K3) : addK a b = addK b a := by
  unfold addK
  rw [Int.add_comm a.1, Int.add_comm a.2.1, Int.add_comm a.2.2]
theorem addK_assoc (a b c : K3) : addK (addK a b) c = addK a (addK b c) := by
  unfold addK
  simp only [Int.add_assoc]
theorem ws_mulT (f : K3 → Rat) (x : K3 × Rat) (ys : List (K3 × Rat)) : ws f (mulT x ys) = x.2 * ws (fun b => f (addK x.1 b)) ys := by
  induction ys with
  | nil => exact (Rat.mul_zero x.2).symm
  | cons y r ih =>
    rw [show mulT x (y :: r) = (addK x.1 y.1, x.2 * y.2) :: mulT x r from rfl, ws, ws, ih]
    grind
theorem ws_mulL (f : K3 → Rat) (ys : List (K3 × Rat)) : ∀ (xs l : List (K3 × Rat)), ws f (xs.foldl (fun l x => l ++ mulT x ys) l) = ws f l + ws (fun a => ws (fun b => f (addK a b)) ys) xs
  | [], l => by rw [List.foldl_nil, show ws (fun a => ws (fun b => f (addK a b)) ys) [] = 0 from rfl, Rat.add_zero]
  | x :: r, l => by rw [List.foldl_cons, ws_mulL f ys r, ws_app, ws_mulT, ws, Rat.add_assoc]
theorem ws_prod (f : K3 → Rat) (xs ys : List (K3 × Rat)) : ws f (mulL xs ys) = ws (fun a => ws (fun b => f (addK a b)) ys) xs := by
  unfold mulL
  rw [ws_mulL, show ws f [] = 0 from rfl, Rat.zero_add]
theorem ws_zero (xs : List (K3 × Rat)) : ws (fun _ => 0) xs = 0 := by
  induction xs with
  | nil => rfl
  | cons x r ih => rw [ws, ih, Rat.mul_zero, Rat.add_zero]
theorem ws_swap (f : K3 → K3 → Rat) (xs ys : List (K3 × Rat)) : ws (fun a => ws (f a) ys) xs = ws (fun b => ws (fun a => f a b) xs) ys := by
  induction xs with
  | nil => rw [show ws (fun a => ws (f a) ys) [] = 0 from rfl]; exact (ws_zero ys).symm
  | cons x r ih =>
    rw [ws, ih, ← ws_mul, ← ws_add]
    exact ws_fun fun b _ => rfl
theorem lsm_prod_comm (xs ys : List (K3 × Rat)) (k : K3) : lsm (mulL xs ys) k = lsm (mulL ys xs) k := by
  rw [lsm_ws, lsm_ws, ws_prod, ws_prod, ws_swap]
  exact ws_fun fun b _ => ws_fun fun a _ => by rw [addK_comm]
theorem mulC_comm {w w' : Nat} {c c' : K3 → Rat} (k : K3) : mulC w' w c' c k = mulC w w' c c' k := lsm_prod_comm _ _ _
theorem lsm_prod_same {xs xs' ys ys' : List (K3 × Rat)} (hx : ∀ k, lsm xs k = lsm xs' k) (hy : ∀ k, lsm ys k = lsm ys' k) (k : K3) : lsm (mulL xs ys) k = lsm (mulL xs' ys') k := by
  rw [lsm_ws, lsm_ws, ws_prod, ws_prod, ws_same _ hx]
  exact ws_fun fun a _ => ws_same _ hy
theorem l_weight_at {n : Nat} {v : Int} (h0 : 0 ≤ v) : ∃ w : Nat, w ≤ 60 ∧ w % 2 = 0 ∧ call P C (n + 1) n_l_weight [.int v] = .ok (.int (w : Int)) := by
  have key : ∀ (u : Int), 0 ≤ u → u ≤ 30 → idxV (.lst [.int (v % 7), .int (v % 13), .int (v % 31)]) (.int (v / 31 % 3)) = .ok (.int u) → ∃ w : Nat, w ≤ 60 ∧ w % 2 = 0 ∧ call P C (n + 1) n_l_weight [.int v] = .ok (.int (w : Int)) := fun u u0 u1 hu => by
    refine ⟨(2 * u).toNat, by omega, by omega, call_run rfl rfl (ρ := [.sh (.int v)]) rfl ?_⟩
    have d1 : divOk (31 : Int) := divOk_of (by decide) (by decide)
    have mk : mulOk (2 : Int) u := mulOk_l (by decide)
    rw [Int.toNat_of_nonneg (by omega)]
    simp [fd_l_weight, bin_mod, bin_fdv d1, Int.fmod_eq_emod_of_nonneg, Int.fdiv_eq_ediv_of_nonneg, LL, hu, bin_mul mk]
  rcases (show v / 31 % 3 = 0 ∨ v / 31 % 3 = 1 ∨ v / 31 % 3 = 2 by omega) with c | c | c
  · exact key (v % 7) (by omega) (by omega) (by rw [c]; rfl)
  · exact key (v % 13) (by omega) (by omega) (by rw [c]; rfl)
  · exact key (v % 31) (by omega) (by omega) (by rw [c]; rfl)
theorem FOk.fw {w m : Nat} {ts : List (K3 × Rat)} (h : FOk w m ts) (hw : w ≤ 60) : FW 40 121 ts := by
  refine ⟨Nat.le_trans h.len (by decide), fun x hx => ?_, lcD 1 (ts.map (·.2)), lcD_pos (by decide), ?_, fun x hx => ⟨lcD_dvd.2 _ (List.mem_map.mpr ⟨x, hx, rfl⟩), (h.num x hx).1⟩⟩
  · have k := h.key x hx
    have a := k.p0; have b := k.q0; have c := k.r0; have d := k.wt
    exact ⟨⟨a, by omega⟩, ⟨b, by omega⟩, c, by omega⟩
  · have := lcD_lt (k := 20) (l := ts.map (·.2)) (fun q hq => by
      obtain ⟨x, hx, rfl⟩ := List.mem_map.mp hq
      exact Nat.le_of_lt (h.num x hx).2) (b := 1) (j := 0) (by decide)
    refine Nat.lt_of_le_of_lt this (Nat.pow_lt_pow_right (by decide) ?_)
    have := h.len
    rw [List.length_map]
    omega
/-! a handler of refusals -/
section
variable {Φ : Nat → List D → R D} {ρ : Rv.Env} {ss : Ss}
theorem s_tryN {b : Ss} {e k : Nat} {ρ' : Rv.Env} (h : exSs Φ C b ρ = .nx ρ') : exSs Φ C (.cons (.tryK b e k) ss) ρ = exSs Φ C ss ρ' := by
  rw [exSs_cons, exS_tryK, h]
theorem s_tryE {b : Ss} {e k c : Nat} {ρ' : Rv.Env} {l : List D} (h : exSs Φ C b ρ = .exc c ρ') (hk : kinOf (C c) = some l) (h1 : (ρ'[e]?).map nlB = some true) (h2 : ((ρ'.set e .un)[k]?).map nlB = some true) :
    exSs Φ C (.cons (.tryK b e k) ss) ρ = exSs Φ C ss ((ρ'.set e .un).set k (.sh (.lst l))) := by
  rw [exSs_cons, exS_tryK, h]
  dsimp only
  rw [hk]
  simp only [stE_nl h1, R.bind_ok, stE_nl h2, Out.ofR_ok]
theorem s_asgE {i : Nat} {e : Ex} {f : Bool} {c : Nat} (h : ev Φ C ρ false e = .exc c) : exSs Φ C (.cons (.asg i e f) ss) ρ = .exc c ρ := by
  rw [exSs_cons, exS_asg, h]; rfl
end
def toldD (d : D) : D := .tup [d, .lst []]
def refD (l : List D) : D := .tup [.non, .lst l]
def kinD (x : String) : List D := [.str (Str.ofString x), .str (Str.ofString "ValueError")]
/-! the law's tables of sums -/
theorem term_key (x : K3 × Rat) : slcV (termD x) none (some 3) = .ok (trD x.1) := rfl
theorem term_3 (x : K3 × Rat) : idxV (termD x) (.int 3) = .ok (frD x.2) := ixT3 _ _ _ _ _
structure TbL (tb : List (K3 × Rat)) (L : List (K3 × Rat)) : Prop where
  nd : (tb.map (·.1)).Nodup
  lk : ∀ k, lk tb k = lsm L k
  len : tb.length ≤ L.length
theorem TbL.nil : TbL [] [] := ⟨List.nodup_nil, fun _ => rfl, Nat.le_refl _⟩
theorem TbL.put {tb L : List (K3 × Rat)} (h : TbL tb L) (k : K3) (v : Rat) : TbL (putA tb k (lsm L k + v)) (L ++ [(k, v)]) := by
  obtain ⟨g1, _, g3⟩ := putA_keys h.nd k (lsm L k + v)
  refine ⟨g1, fun j => ?_, by rw [List.length_append]; have := h.len; simp; omega⟩
  rw [lk_put h.nd, lsm_app, h.lk]
  simp only [lsm]
  by_cases c : j = k
  · rw [if_pos c, if_pos c.symm, c, Rat.add_zero]
  · rw [if_neg c, if_neg fun z => c z.symm, Rat.add_zero, Rat.add_zero]
theorem TbL.get {tb L : List (K3 × Rat)} (h : TbL tb L) (k : K3) : ((getT (.dT (tb.map encT)) (trD k)).bind fun o => R.ok (o.getD (frD 0))) = .ok (frD (lsm L k)) := by
  rw [getT_tr tb k, R.bind_ok, ← h.lk]
  split
  · rfl
  · rename_i hno
    rw [lk_none hno]
    rfl
theorem l_acc {n i : Nat} {ρ : Rv.Env} {key E : Ex} {k : K3} {v : Rat} {tb L : List (K3 × Rat)} {a d : Nat} (h : TbL tb L) (hL : L.length < 90000) (h0 : ρ[i]? = some (.own (.dT (tb.map encT)))) (hk : ev (call P C (n + 3)) C ρ false key = .ok (trD k)) (hE : ev (call P C (n + 3)) C ρ false E = .ok (frD v))
    (s1 : S2 a d (lsm L k)) (s2 : S2 a d v) (hd : d + d ≤ 9000) (ha : a ≤ 20000000) :
    exS (call P C (n + 3)) C (.dst i key (.call n_l_add (.cons (.dgt i key (.tup (.cons (.int 0) (.cons (.int 1) .nil)))) (.cons E .nil)))) ρ = .nx (ρ.set i (.own (.dT ((putA tb k (lsm L k + v)).map encT)))) := by
  have g := h.get k
  have pt := putT_tr (tb := tb) (by have := h.len; unfold LL; omega) k (lsm L k + v)
  have ad := l_add_at2 (n := n) s1 s2 hd ha ha
  have z : D.tup [.int 0, .int 1] = frD 0 := rfl
  simp only [exS_dst, dO, dV, h0, Out.ofR_ok, ev_call, evs_cons, evs_nil, ev_dgt, hk, hE, R.bind_ok, ev_tup, ev_int, List.length_cons, List.length_nil, LL, Nat.reduceAdd, Nat.reduceLeDiff, if_true, z, g, ad, pt]
theorem l_gathered_cn {n w : Nat} (hw : w ≤ 60) {tb L : List (K3 × Rat)} (h : TbL tb L) (hL : L.length ≤ 90000) (hk : ∀ k, ¬ KW w k → lsm L k = 0) {e : D} (he : e = .int w) : call P C (n + 1) n_l_gathered [e, .dT (tb.map encT)] = .ok (FD w (lsm L)) := by
  subst he
  rw [l_gathered_at (by have := h.len; unfold LL; omega)]
  have e : gat tb = cn w (lsm L) := by
    refine cn_of hw (gat_can h.nd) (fun x hx => ?_) fun k _ => by rw [lk_gat h.nd, h.lk]
    by_cases q : KW w x.1
    · exact q
    · have z := hk x.1 q
      rw [← h.lk, ← lk_gat h.nd, lk_mem (gat_can h.nd).nd hx] at z
      exact absurd z ((gat_can h.nd).ne x hx)
  rw [e]; rfl
/-! the law's sums and products of forms -/
theorem l_form_sum_cn {n w b a b' a' d e : Nat} {c c' : K3 → Rat} {q : Rat} (hw : w ≤ 60) (h : SZ w b a c) (h' : SZ w b' a' c') (hq : S2 d e q) (hb : b + b' + e ≤ 4500) (ha : a ≤ 1000000) (ha' : a' ≤ 1000000) (hd : d ≤ 1000000) :
    call P C (n + 5) n_l_form_sum [FD w c, FD w c', frD q] = .ok (FD w fun k => c k + c' k * q) := by
  have l1 := cn_len hw c
  have l2 := cn_len hw c'
  have hl1 : (cn w c).length ≤ LL := by unfold LL; omega
  have hl2 : (cn w c').length ≤ LL := by unfold LL; omega
  obtain ⟨xs, hxs⟩ : ∃ xs, xs = cn w c := ⟨_, rfl⟩
  obtain ⟨ys, hys⟩ : ∃ ys, ys = (cn w c').map fun x => (x.1, x.2 * q) := ⟨_, rfl⟩
  have lx : xs.length ≤ 91 := by rw [hxs]; exact l1
  -- the first table
  obtain ⟨ρ1, h1, tb1, t1, rfl, o4⟩ := for_atI (Φ := call P C (n + 4)) (ρ := [.sh (FD w c), .sh (FD w c'), .sh (frD q), .own (.dT (([] : List (K3 × Rat)).map encT)), us none]) (t := .var 4) (s := .it (.idx (.var 0) (.int 1))) (body := lb_l_form_sum_0) (l := xs.map termD)
    (fun i ρ => ∃ tb o4, ρ = [.sh (FD w c), .sh (FD w c'), .sh (frD q), .own (.dT (tb.map encT)), us o4] ∧ TbL tb (xs.take i)) (by simp [FD_ix1, hxs]) ⟨[], none, rfl, by rw [List.take_zero]; exact TbL.nil⟩ (fun i x ρ hxi ⟨tb, o4, e, ht⟩ => by
      subst e
      rw [List.getElem?_map] at hxi
      obtain ⟨y, hy, rfl⟩ := Option.map_eq_some_iff.mp hxi
      have hi : i < xs.length := (List.getElem?_eq_some_iff.mp hy).1
      have new : lsm (xs.take i) y.1 = 0 := by
        refine lsm_none fun x hx e => ?_
        obtain ⟨j, hj, ej⟩ := List.getElem_of_mem hx
        rw [List.length_take] at hj
        have nd := (cn_can hw c).nodup
        rw [← hxs] at nd
        have e2 : (xs.map (·.1))[j]? = (xs.map (·.1))[i]? := by
          rw [List.getElem?_map, List.getElem?_map, hy, List.getElem?_eq_getElem (show j < xs.length by omega)]
          rw [List.getElem_take] at ej
          rw [ej]
          exact congrArg some e
        have := (List.getElem?_inj (by rw [List.length_map]; omega) nd).mp e2
        omega
      have pp := ht.put y.1 y.2
      rw [new, Rat.zero_add] at pp
      have pt := putT_tr (tb := tb) (by have := ht.len; rw [List.length_take] at this; unfold LL; omega) y.1 y.2
      refine ⟨_, _, by simp only [setT_var]; exact stE_nl (by simp), .inl ?_, putA tb y.1 y.2, some (termD y), rfl, by rw [List.take_succ, hy]; exact pp⟩
      simp [lb_l_form_sum_0, term_key, term_3, dO, pt])
  rw [List.length_map, List.take_length] at o4
  -- the second
  obtain ⟨B, b1, b2, b3, b4⟩ := h.two h'
  have qz : Zb q.den (2 ^ d) q := ⟨q.num, (num_eq q).symm, Nat.le_of_lt hq.1⟩
  have qp : 0 < q.den := Nat.pos_of_ne_zero q.den_nz
  have A1 : ∀ x ∈ xs, Zb (B * q.den) (2 ^ (a + a' + b + b' + d + e)) x.2 := fun x hx => by
    rw [hxs] at hx
    obtain ⟨g1, _, g3⟩ := cn_mem.mp hx
    rw [g3]
    refine ((b3 _ g1).up q.den).mono ?_
    refine Nat.le_trans (Nat.mul_le_mul_left _ (Nat.le_of_lt hq.2)) ?_
    rw [← Nat.pow_add]
    exact Nat.pow_le_pow_right (by decide) (by omega)
  have A2 : ∀ x ∈ ys, Zb (B * q.den) (2 ^ (a + a' + b + b' + d + e)) x.2 := fun x hx => by
    rw [hys] at hx
    obtain ⟨y, hy, rfl⟩ := List.mem_map.mp hx
    obtain ⟨g1, _, g3⟩ := cn_mem.mp hy
    dsimp only
    rw [g3]
    refine ((b4 _ g1).mul qz).mono ?_
    rw [← Nat.pow_add]
    exact Nat.pow_le_pow_right (by decide) (by omega)
  have Bp : 0 < B * q.den := Nat.mul_pos b1 qp
  have Bl : B * q.den < 2 ^ (b + b' + e) := mul_lt b2 hq.2
  have A3 : ∀ x ∈ xs ++ ys, Zb (B * q.den) (2 ^ (a + a' + b + b' + d + e)) x.2 := fun x hx => (List.mem_append.mp hx).elim (A1 x) (A2 x)
  have ly : ys.length ≤ 91 := by rw [hys, List.length_map]; exact l2
  generalize hS : a + a' + b + b' + d + e = S at *
  have big : ∀ k (L : List (K3 × Rat)), (∀ x ∈ L, x ∈ xs ++ ys) → L.length ≤ 182 → S2 (S + 9) (b + b' + e) (lsm L k) := fun k L hL hl => by
    have z := lsm_zb (B := B * q.den) (A := 2 ^ S) (xs := L) (fun x hx => A3 x (hL x hx)) k
    refine z.s2 Bp ?_ Bl
    rw [Nat.pow_add 2 S 9, Nat.mul_comm (2 ^ S)]
    have p := Nat.two_pow_pos S
    exact Nat.lt_of_le_of_lt (Nat.mul_le_mul_right _ hl) (Nat.mul_lt_mul_of_pos_right (by decide) p)
  obtain ⟨ρ2, h2, tb2, o5, rfl, t2⟩ := for_atI (Φ := call P C (n + 4)) (ρ := [.sh (FD w c), .sh (FD w c'), .sh (frD q), .own (.dT (tb1.map encT)), us t1]) (t := .var 4) (s := .it (.idx (.var 1) (.int 1))) (body := lb_l_form_sum_1) (l := (cn w c').map termD)
    (fun i ρ => ∃ tb o4, ρ = [.sh (FD w c), .sh (FD w c'), .sh (frD q), .own (.dT (tb.map encT)), us o4] ∧ TbL tb (xs ++ ys.take i)) (by simp [FD_ix1]) ⟨tb1, t1, rfl, by rw [List.take_zero, List.append_nil]; exact o4⟩ (fun i x ρ hxi ⟨tb, o4, e, ht⟩ => by
      subst e
      rw [List.getElem?_map] at hxi
      obtain ⟨y, hy, rfl⟩ := Option.map_eq_some_iff.mp hxi
      have hym := List.mem_of_getElem? hy
      have hyi : ys[i]? = some (y.1, y.2 * q) := by rw [hys, List.getElem?_map, hy]; rfl
      have hi : i < ys.length := (List.getElem?_eq_some_iff.mp hyi).1
      have mu := l_mul_at2 (n := n + 1) (h'.s2m hym) hq (by omega) (by omega) (by omega)
      have mu : call P C (n + 4) n_l_mul [frD y.2, frD q] = .ok (frD (y.2 * q)) := mu
      have s1 := big y.1 (xs ++ ys.take i) (fun x hx => (List.mem_append.mp hx).elim (fun h => List.mem_append_left _ h) fun h => List.mem_append_right _ (List.mem_of_mem_take h)) (by rw [List.length_append, List.length_take]; omega)
      have s2 : S2 (S + 9) (b + b' + e) (y.2 * q) := ((A3 _ (List.mem_append_right _ (List.mem_of_getElem? hyi))).s2 Bp (Nat.pow_lt_pow_right (by decide) (by omega)) Bl)
      have ac := l_acc (n := n + 1) (i := 3) (ρ := [.sh (FD w c), .sh (FD w c'), .sh (frD q), .own (.dT (tb.map encT)), .sh (termD y)]) (key := .slc (.var 4) .no (.yes (.int 3))) (E := .call n_l_mul (.cons (.idx (.var 4) (.int 3)) (.cons (.var 2) .nil))) (k := y.1) (v := y.2 * q) ht
        (by rw [List.length_append, List.length_take]; omega) rfl (by simp [term_key]) (by simp [term_3, mu]) s1 s2 (by omega) (by omega)
      refine ⟨[.sh (FD w c), .sh (FD w c'), .sh (frD q), .own (.dT (tb.map encT)), .sh (termD y)], _, by simp [stE_nl], .inl (by unfold lb_l_form_sum_1; rw [s_run ac, exSs_nil]; rfl), putA tb y.1 (lsm (xs ++ ys.take i) y.1 + y.2 * q), some (termD y), rfl, ?_⟩
      have pp := ht.put y.1 (y.2 * q)
      rw [List.take_succ, hyi, ← List.append_assoc]
      exact pp)
  rw [List.length_map, show (cn w c').length = ys.length by rw [hys, List.length_map], List.take_length] at t2
  have kx : ∀ x ∈ xs ++ ys, KW w x.1 := fun x hx => by
    rcases List.mem_append.mp hx with h | h
    · rw [hxs] at h; exact (cn_mem.mp h).1
    · rw [hys] at h
      obtain ⟨y, hy, rfl⟩ := List.mem_map.mp h
      exact (cn_mem.mp hy).1
  have gg := l_gathered_cn (n := n + 3) hw t2 (by rw [List.length_append]; omega) (fun k hk => lsm_none fun x hx e => hk (by rw [← e]; exact kx x hx)) rfl
  have gg : call P C (n + 4) n_l_gathered [.int w, .dT (tb2.map encT)] = .ok (FD w (lsm (xs ++ ys))) := gg
  rw [FD_congr (c' := fun k => c k + c' k * q) fun k hk => by rw [lsm_app, hxs, hys, lsm_mulq, lsm_cn hw hk, lsm_cn hw hk]] at gg
  refine call_run rfl rfl (ρ := [.sh (FD w c), .sh (FD w c'), .sh (frD q), .un, .un]) rfl ?_
  unfold fd_l_form_sum
  dsimp only
  rw [exSs_cons, exS_dnw, stE_nl (by rfl)]
  simp only [Out.ofR_ok, List.set_cons_succ, List.set_cons_zero, if_true]
  refine (congrArg fin (s_run h1)).trans ?_
  refine (congrArg fin (s_run h2)).trans ?_
  simp only [exSs_frz, frzE, List.getElem?_cons_succ, List.getElem?_cons_zero, List.set_cons_succ, List.set_cons_zero]
  rw [s_ret (d := FD w fun k => c k + c' k * q) (by simp [FD_ix0, gg])]
  rfl
theorem l_form_product_cn {n w w' b a b' a' : Nat} {c c' : K3 → Rat} (hw : w + w' ≤ 60) (h : SZ w b a c) (h' : SZ w' b' a' c') (hb : b + b' ≤ 4500) (ha : a ≤ 1000000) (ha' : a' ≤ 1000000) :
    call P C (n + 5) n_l_form_product [FD w c, FD w' c'] = .ok (FD (w + w') (mulC w w' c c')) := by
  have l1 := cn_len (show w ≤ 60 by omega) c
  have l2 := cn_len (show w' ≤ 60 by omega) c'
  have hl1 : (cn w c).length ≤ LL := by unfold LL; omega
  have hl2 : (cn w' c').length ≤ LL := by unfold LL; omega
  obtain ⟨B, h1, h2, h3⟩ := h.cn
  obtain ⟨B', g1, g2, g3⟩ := h'.cn
  have Bp : 0 < B * B' := Nat.mul_pos h1 g1
  have Bl : B * B' < 2 ^ (b + b') := mul_lt h2 g2
  have s2m := fun {x} hx => h.s2m (x := x) hx
  have s2m' := fun {x} hx => h'.s2m (x := x) hx
  obtain ⟨xs, hxs⟩ : ∃ xs, xs = cn w c := ⟨_, rfl⟩
  obtain ⟨ys, hys⟩ : ∃ ys, ys = cn w' c' := ⟨_, rfl⟩
  rw [← hxs] at h3 l1 hl1 s2m
  rw [← hys] at g3 l2 hl2 s2m'
  have hz : ∀ x ∈ xs, ∀ y ∈ ys, Zb (B * B') (2 ^ (a + a')) (x.2 * y.2) := fun x hx y hy => by rw [Nat.pow_add]; exact (h3 x hx).mul (g3 y hy)
  have ml : ∀ j, (xs.take j).foldl (fun l x => l ++ mulT x ys) [] = mulL (xs.take j) ys := fun j => rfl
  have f0 : ∀ i x, xs[i]? = some x → mulL (xs.take (i + 1)) ys = mulL (xs.take i) ys ++ mulT x ys := fun i x hx => by
    unfold mulL
    rw [List.take_succ, hx]
    simp
  have mlen : ∀ i, (mulL (xs.take i) ys).length ≤ 91 * 91 := fun i => by
    unfold mulL
    rw [mulL_len, List.length_nil, Nat.zero_add, List.length_take]
    exact Nat.mul_le_mul (by omega) l2
  have mmem : ∀ i, ∀ z ∈ mulL (xs.take i) ys, ∃ x ∈ xs, ∃ y ∈ ys, z = (addK x.1 y.1, x.2 * y.2) := fun i z hz => by
    rcases mulL_mem ys (xs.take i) [] hz with h | ⟨x, hx, y, hy, e⟩
    · cases h
    · exact ⟨x, List.mem_of_mem_take hx, y, hy, e⟩
  have big : ∀ k (L : List (K3 × Rat)), (∀ z ∈ L, ∃ x ∈ xs, ∃ y ∈ ys, z = (addK x.1 y.1, x.2 * y.2)) → L.length ≤ 8400 → S2 (a + a' + 15) (b + b') (lsm L k) := fun k L hL hl => by
    have z := lsm_zb (B := B * B') (A := 2 ^ (a + a')) (xs := L) (fun z hz' => by
      obtain ⟨x, hx, y, hy, rfl⟩ := hL z hz'
      exact hz x hx y hy) k
    refine z.s2 Bp ?_ Bl
    rw [Nat.pow_add 2 (a + a') 15, Nat.mul_comm (2 ^ (a + a'))]
    have p := Nat.two_pow_pos (a + a')
    exact Nat.lt_of_le_of_lt (Nat.mul_le_mul_right _ hl) (Nat.mul_lt_mul_of_pos_right (by decide) p)
  obtain ⟨ρ2, h2, tb2, o3, o4, o5, o6, o7, o8, o9, o10, o11, rfl, t2⟩ := for_atI (Φ := call P C (n + 4)) (ρ := [.sh (FD w c), .sh (FD w' c'), .own (.dT (([] : List (K3 × Rat)).map encT)), us none, us none, us none, us none, us none, us none, us none, us none, us none]) (t := .tup (.cons (.var 3) (.cons (.var 4) (.cons (.var 5) (.cons (.var 6) .nil))))) (s := .it (.idx (.var 0) (.int 1))) (body := lb_l_form_product_1) (l := xs.map termD)
    (fun i ρ => ∃ tb o3 o4 o5 o6 o7 o8 o9 o10 o11, ρ = [.sh (FD w c), .sh (FD w' c'), .own (.dT (tb.map encT)), us o3, us o4, us o5, us o6, us o7, us o8, us o9, us o10, us o11] ∧ TbL tb (mulL (xs.take i) ys)) (by simp [FD_ix1, hxs])
    ⟨[], none, none, none, none, none, none, none, none, none, rfl, by rw [List.take_zero]; exact TbL.nil⟩ (fun i x ρ hxi ⟨tb, o3, o4, o5, o6, o7, o8, o9, o10, o11, e, ht⟩ => by
      subst e
      rw [List.getElem?_map] at hxi
      obtain ⟨x, hx, rfl⟩ := Option.map_eq_some_iff.mp hxi
      have hxm := List.mem_of_getElem? hx
      obtain ⟨ρ3, h3, tb3, p7, p8, p9, p10, p11, rfl, t3⟩ := for_atI (Φ := call P C (n + 4)) (ρ := [.sh (FD w c), .sh (FD w' c'), .own (.dT (tb.map encT)), .sh (.int x.1.1), .sh (.int x.1.2.1), .sh (.int x.1.2.2), .sh (frD x.2), us o7, us o8, us o9, us o10, us o11]) (t := .tup (.cons (.var 7) (.cons (.var 8) (.cons (.var 9) (.cons (.var 10) .nil))))) (s := .it (.idx (.var 1) (.int 1))) (body := lb_l_form_product_0) (l := ys.map termD)
        (fun j ρ => ∃ tb o7 o8 o9 o10 o11, ρ = [.sh (FD w c), .sh (FD w' c'), .own (.dT (tb.map encT)), .sh (.int x.1.1), .sh (.int x.1.2.1), .sh (.int x.1.2.2), .sh (frD x.2), us o7, us o8, us o9, us o10, us o11] ∧ TbL tb (mulL (xs.take i) ys ++ (mulT x ys).take j)) (by simp [FD_ix1, hys])
        ⟨tb, o7, o8, o9, o10, o11, rfl, by rw [List.take_zero, List.append_nil]; exact ht⟩ (fun j y ρ hyj ⟨tb, o7, o8, o9, o10, o11, e, ht⟩ => by
          subst e
          rw [List.getElem?_map] at hyj
          obtain ⟨y, hy, rfl⟩ := Option.map_eq_some_iff.mp hyj
          have hym := List.mem_of_getElem? hy
          have hj : j < ys.length := (List.getElem?_eq_some_iff.mp hy).1
          have hmj : (mulT x ys)[j]? = some (addK x.1 y.1, x.2 * y.2) := by unfold mulT; rw [List.getElem?_map, hy]; rfl
          have mu := l_mul_at2 (n := n + 1) (s2m hxm) (s2m' hym) (by omega) (by omega) (by omega)
          have mu : call P C (n + 4) n_l_mul [frD x.2, frD y.2] = .ok (frD (x.2 * y.2)) := mu
          have sl := mlen i
          have s1 := big (addK x.1 y.1) (mulL (xs.take i) ys ++ (mulT x ys).take j) (fun z hz => (List.mem_append.mp hz).elim (mmem i z) fun h => by
            have h := List.mem_of_mem_take h
            unfold mulT at h
            obtain ⟨y', hy', rfl⟩ := List.mem_map.mp h
            exact ⟨x, hxm, y', hy', rfl⟩) (by rw [List.length_append, List.length_take]; unfold mulT; rw [List.length_map]; omega)
          have s2 : S2 (a + a' + 15) (b + b') (x.2 * y.2) := (hz x hxm y hym).s2 Bp (Nat.pow_lt_pow_right (by decide) (by omega)) Bl
          have ac := l_acc (n := n + 1) (i := 2) (ρ := [.sh (FD w c), .sh (FD w' c'), .own (.dT (tb.map encT)), .sh (.int x.1.1), .sh (.int x.1.2.1), .sh (.int x.1.2.2), .sh (frD x.2), .sh (.int y.1.1), .sh (.int y.1.2.1), .sh (.int y.1.2.2), .sh (frD y.2), .sh (trD (addK x.1 y.1))]) (key := .var 11) (E := .call n_l_mul (.cons (.var 6) (.cons (.var 10) .nil))) (k := addK x.1 y.1) (v := x.2 * y.2) ht
            (by rw [List.length_append, List.length_take]; unfold mulT; rw [List.length_map]; omega) rfl (by simp) (by simp [mu]) s1 s2 (by omega) (by omega)
          refine ⟨[.sh (FD w c), .sh (FD w' c'), .own (.dT (tb.map encT)), .sh (.int x.1.1), .sh (.int x.1.2.1), .sh (.int x.1.2.2), .sh (frD x.2), .sh (.int y.1.1), .sh (.int y.1.2.1), .sh (.int y.1.2.2), .sh (frD y.2), us o11], [.sh (FD w c), .sh (FD w' c'), .own (.dT ((putA tb (addK x.1 y.1) (lsm (mulL (xs.take i) ys ++ (mulT x ys).take j) (addK x.1 y.1) + x.2 * y.2)).map encT)), .sh (.int x.1.1), .sh (.int x.1.2.1), .sh (.int x.1.2.2), .sh (frD x.2), .sh (.int y.1.1), .sh (.int y.1.2.1), .sh (.int y.1.2.2), .sh (frD y.2), .sh (trD (addK x.1 y.1))], by simp [termD, stE_nl], .inl ?_, putA tb (addK x.1 y.1) (lsm (mulL (xs.take i) ys ++ (mulT x ys).take j) (addK x.1 y.1) + x.2 * y.2), some _, some _, some _, some _, some _, rfl, ?_⟩
          · unfold lb_l_form_product_0
            rw [s_asg (d := trD (addK x.1 y.1)) (by simp [LL]; rfl) (by simp)]
            simp only [List.set_cons_succ, List.set_cons_zero]
            rw [s_run ac, exSs_nil]
            rfl
          · have pp := ht.put (addK x.1 y.1) (x.2 * y.2)
            rw [List.take_succ, hmj, ← List.append_assoc]
            exact pp)
      rw [List.length_map, show ys.length = (mulT x ys).length by unfold mulT; rw [List.length_map], List.take_length] at t3
      refine ⟨[.sh (FD w c), .sh (FD w' c'), .own (.dT (tb.map encT)), .sh (.int x.1.1), .sh (.int x.1.2.1), .sh (.int x.1.2.2), .sh (frD x.2), us o7, us o8, us o9, us o10, us o11], [.sh (FD w c), .sh (FD w' c'), .own (.dT (tb3.map encT)), .sh (.int x.1.1), .sh (.int x.1.2.1), .sh (.int x.1.2.2), .sh (frD x.2), us p7, us p8, us p9, us p10, us p11], by simp [termD, stE_nl], .inl (by unfold lb_l_form_product_1 lp_l_form_product_0; rw [s_run h3, exSs_nil]), tb3, some _, some _, some _, some _, p7, p8, p9, p10, p11, rfl, ?_⟩
      rw [f0 i x hx]
      exact t3)
  rw [List.length_map, List.take_length] at t2
  have gg := l_gathered_cn (n := n + 3) (w := w + w') hw t2 (by
      have := mlen xs.length
      rw [List.take_length] at this
      omega) (fun k hk => lsm_none fun x hx e => hk (by
        rw [hxs, hys] at hx
        rw [← e]; exact mulL_KW x hx)) (e := .int ((w : Int) + (w' : Int))) (by simp)
  have gg : call P C (n + 4) n_l_gathered [.int ((w : Int) + (w' : Int)), .dT (tb2.map encT)] = .ok (FD (w + w') (lsm (mulL xs ys))) := gg
  rw [hxs, hys] at gg
  refine call_run rfl rfl (ρ := [.sh (FD w c), .sh (FD w' c'), .un, .un, .un, .un, .un, .un, .un, .un, .un, .un]) rfl ?_
  unfold fd_l_form_product
  dsimp only
  rw [exSs_cons, exS_dnw, stE_nl (by rfl)]
  simp only [Out.ofR_ok, List.set_cons_succ, List.set_cons_zero, if_true]
  refine (congrArg fin (s_run h2)).trans ?_
  simp only [exSs_frz, frzE, List.getElem?_cons_succ, List.getElem?_cons_zero, List.set_cons_succ, List.set_cons_zero]
  rw [s_ret (d := FD (w + w') (mulC w w' c c')) (by simp [FD_ix0, gg]; rfl)]
  rfl
/-! slopes of forms -/
def rt (t b : Int) : Rat := Rat.divInt t b
def slR (x : K3 × Rat) : List (K3 × Rat) :=
  [((x.1.1 + 1, x.1.2.1, x.1.2.2), x.2 * rt (x.1.1 + 4 * x.1.2.1 + 6 * x.1.2.2) 12), ((x.1.1 - 1, x.1.2.1 + 1, x.1.2.2), x.2 * rt (-x.1.1) 12), ((x.1.1, x.1.2.1 - 1, x.1.2.2 + 1), x.2 * rt (-x.1.2.1) 3), ((x.1.1, x.1.2.1 + 2, x.1.2.2 - 1), x.2 * rt (-x.1.2.2) 2)]
def slXs (xs : List (K3 × Rat)) : List (K3 × Rat) := xs.flatMap slR
def slC (w : Nat) (c : K3 → Rat) : K3 → Rat := lsm (slXs (cn w c))
theorem s_app {Φ : Nat → List D → R D} {ρ : Rv.Env} {ss : Ss} {i : Nat} {e : Ex} {l : List D} {d : D} (h0 : ρ[i]? = some (.own (.lst l))) (h : ev Φ C ρ false e = .ok d) (hl : l.length < LL) : exSs Φ C (.cons (.app i e) ss) ρ = exSs Φ C ss (ρ.set i (.own (.lst (l ++ [d])))) := by
  rw [exSs_cons, exS_app]
  simp only [ownL, h0, h, Out.ofR_ok, if_pos hl]
theorem rt_zero {b : Int} : rt 0 b = 0 := Rat.zero_divInt b
theorem lsm_fil (xs : List (K3 × Rat)) (k : K3) : lsm (xs.filter fun x => decide (x.2 ≠ 0)) k = lsm xs k := by
  induction xs with
  | nil => rfl
  | cons x r ih =>
    rw [List.filter_cons]
    split
    · rw [lsm, lsm, ih]
    · rename_i h
      have h : x.2 = 0 := by simpa using h
      rw [lsm, ih, h]
      split <;> rw [Rat.zero_add]
theorem slR_KW {w : Nat} {x y : K3 × Rat} (h : KW w x.1) (hy : y ∈ slR x) (hz : y.2 ≠ 0) : KW (w + 2) y.1 := by
  obtain ⟨h1, h2, h3, h4⟩ := h
  unfold slR at hy
  simp only [List.mem_cons, List.not_mem_nil, or_false] at hy
  have nz : ∀ {v : Rat} {t b : Int}, v * rt t b ≠ 0 → t ≠ 0 := fun {v t b} q z => q (by rw [z, rt_zero, Rat.mul_zero])
  unfold KW
  rcases hy with rfl | rfl | rfl | rfl
  · dsimp only; omega
  · have := nz hz; dsimp only; omega
  · have := nz hz; dsimp only; omega
  · have := nz hz; dsimp only; omega
theorem rt_zb {t b : Int} (m : Nat) (hb : 0 < b) (hm : b * m = 12) (ht : (t * m).natAbs ≤ 2 ^ 10) : Zb 12 (2 ^ 10) (rt t b) := by
  refine ⟨t * m, ?_, ht⟩
  have hbr : ((b : Int) : Rat) ≠ 0 := fun z => by
    have := Rat.intCast_eq_zero_iff.mp z
    omega
  unfold rt
  rw [Rat.divInt_eq_div, Rat.div_def, show (((12 : Nat) : Int) : Rat) = ((b * (m : Int) : Int) : Rat) by rw [hm]; rfl, Rat.intCast_mul, Rat.intCast_mul]
  rw [Rat.mul_assoc, ← Rat.mul_assoc (b : Rat)⁻¹, Rat.inv_mul_cancel _ hbr, Rat.one_mul]
theorem slR_zb {w B A : Nat} {x y : K3 × Rat} (hw : w ≤ 60) (h : KW w x.1) (hx : Zb B A x.2) (hy : y ∈ slR x) : Zb (B * 12) (A * 2 ^ 10) y.2 := by
  have := h.in hw
  unfold slR at hy
  simp only [List.mem_cons, List.not_mem_nil, or_false] at hy
  rcases hy with rfl | rfl | rfl | rfl
  · exact hx.mul (rt_zb 1 (by decide) (by decide) (by omega))
  · exact hx.mul (rt_zb 1 (by decide) (by decide) (by omega))
  · exact hx.mul (rt_zb 4 (by decide) (by decide) (by omega))
  · exact hx.mul (rt_zb 6 (by decide) (by decide) (by omega))
theorem rated_at {n a d : Nat} {v : Rat} {t b : Int} (hv : S2 a d v) (hb : b ≠ 0) (hb2 : b.natAbs < 2 ^ 10) (ht : t.natAbs < 2 ^ 20) (hd : d ≤ 8000) (ha : a ≤ 20000000) : call P C (n + 3) n_rated [frD v, .int t, .int b] = .ok (frD (v * rt t b)) := by
  have m1 : mulOk v.num t := mulOk_r (Nat.lt_trans ht (by decide))
  have m2 : mulOk (v.den : Int) b := mulOk_r (Nat.lt_trans hb2 (by decide))
  have f := fraction_at (n := n) (t := v.num * t) (b := (v.den : Int) * b) (Int.mul_ne_zero (den_ne v) hb) (le9000 (k := d + 10) (by rw [Int.natAbs_mul, natAbs_den]; exact mul_lt hv.2 hb2) (by omega))
  have e : Rat.divInt (v.num * t) ((v.den : Int) * b) = v * rt t b := by
    unfold rt
    rw [← Rat.divInt_mul_divInt, Rat.num_divInt_den]
  rw [e] at f
  refine call_run rfl rfl (ρ := [.sh (frD v), .sh (.int t), .sh (.int b)]) rfl ?_
  simp [fd_rated, bin_mul m1, bin_mul m2, f]
theorem slXs_len (xs : List (K3 × Rat)) : (slXs xs).length = 4 * xs.length := by
  induction xs with
  | nil => rfl
  | cons x r ih =>
    unfold slXs at ih ⊢
    rw [List.flatMap_cons, List.length_append, ih, List.length_cons]
    show 4 + _ = _
    omega
theorem slope_cn {n w b a : Nat} {c : K3 → Rat} (hw : w + 2 ≤ 60) (h : SZ w b a c) (hb : b ≤ 4400) (ha : a ≤ 4000000) :
    call P C (n + 5) n_slope [FD w c] = .ok (FD (w + 2) (slC w c)) ∧ SZ (w + 2) (b + 4) (a + 26) (slC w c) := by
  have hw2 : w ≤ 60 := by omega
  have l1 := cn_len hw2 c
  have hl1 : (cn w c).length ≤ LL := by unfold LL; omega
  have c0 : C gl_NOUGHT = frD 0 := rfl
  obtain ⟨B, b1, b2, b3⟩ := h.cn
  have s2m := fun {x} hx => h.s2m (x := x) hx
  have kwm : ∀ x ∈ cn w c, KW w x.1 := fun x hx => (cn_mem.mp hx).1
  have zb : ∀ y ∈ slXs (cn w c), Zb (B * 12) (2 ^ (a + 10)) y.2 := fun y hy => by
    obtain ⟨x, hx, hy⟩ := List.mem_flatMap.mp hy
    rw [Nat.pow_add]
    exact slR_zb hw2 (kwm x hx) (b3 x hx) hy
  obtain ⟨g1, g2⟩ := gathered_cn (n := n) (w := w + 2) (b := b + 4) (a := a + 10) (xs := (slXs (cn w c)).filter fun x => decide (x.2 ≠ 0)) hw (.inr rfl) (fun y hy => by
      obtain ⟨hy, hz⟩ := List.mem_filter.mp hy
      obtain ⟨x, hx, hy⟩ := List.mem_flatMap.mp hy
      exact slR_KW (kwm x hx) hy (of_decide_eq_true hz))
    ⟨B * 12, Nat.mul_pos b1 (by decide), by
      rw [Nat.pow_add]
      exact Nat.mul_lt_mul'' b2 (by decide), fun y hy => zb y (List.mem_filter.mp hy).1⟩ (by
      refine Nat.lt_of_le_of_lt (List.length_filter_le _ _) ?_
      rw [slXs_len]; omega) (by omega) (by omega)
  have es : ∀ k, KW (w + 2) k → lsm ((slXs (cn w c)).filter fun x => decide (x.2 ≠ 0)) k = slC w c k := fun k _ => lsm_fil _ k
  refine ⟨?_, (g2.congr es).mono (by omega) (by omega)⟩
  rw [FD_congr es] at g1
  obtain ⟨ρ', h1, o2, o3, o4, o5, rfl⟩ := for_atI (Φ := call P C (n + 4)) (ρ := [.sh (FD w c), .own (.lst ((slXs []).map termD)), us none, us none, us none, us none, .un]) (t := .tup (.cons (.var 2) (.cons (.var 3) (.cons (.var 4) (.cons (.var 5) .nil))))) (s := .it (.idx (.var 0) (.int 1))) (body := lb_slope_0) (l := (cn w c).map termD)
    (fun i ρ => ∃ o2 o3 o4 o5, ρ = [.sh (FD w c), .own (.lst ((slXs ((cn w c).take i)).map termD)), us o2, us o3, us o4, us o5, .un]) (by simp [FD_ix1]) ⟨none, none, none, none, rfl⟩ (fun i x ρ hxi ⟨o2, o3, o4, o5, e⟩ => by
      subst e
      rw [List.getElem?_map] at hxi
      obtain ⟨y, hy, rfl⟩ := Option.map_eq_some_iff.mp hxi
      have hym := List.mem_of_getElem? hy
      have k := (kwm y hym).in hw2
      have s := s2m hym
      have r1 := rated_at (n := n + 1) (t := y.1.1 + 4 * y.1.2.1 + 6 * y.1.2.2) (b := 12) s (by decide) (by decide) (by omega) (by omega) (by omega)
      have r2 := rated_at (n := n + 1) (t := -y.1.1) (b := 12) s (by decide) (by decide) (by omega) (by omega) (by omega)
      have r3 := rated_at (n := n + 1) (t := -y.1.2.1) (b := 3) s (by decide) (by decide) (by omega) (by omega) (by omega)
      have r4 := rated_at (n := n + 1) (t := -y.1.2.2) (b := 2) s (by decide) (by decide) (by omega) (by omega) (by omega)
      have m4 : mulOk 4 y.1.2.1 := mulOk_l (by decide)
      have m6 : mulOk 6 y.1.2.2 := mulOk_l (by decide)
      have ln : (slXs ((cn w c).take i)).length ≤ 364 := by
        rw [slXs_len, List.length_take]; omega
      have tk : slXs ((cn w c).take (i + 1)) = slXs ((cn w c).take i) ++ slR y := by
        unfold slXs
        rw [List.take_succ, hy, List.flatMap_append]
        simp
      refine ⟨[.sh (FD w c), .own (.lst ((slXs ((cn w c).take i)).map termD)), .sh (.int y.1.1), .sh (.int y.1.2.1), .sh (.int y.1.2.2), .sh (frD y.2), .un], [.sh (FD w c), .own (.lst ((slXs ((cn w c).take (i + 1))).map termD)), .sh (.int y.1.1), .sh (.int y.1.2.1), .sh (.int y.1.2.2), .sh (frD y.2), .un], by simp [termD, stE_nl], .inl ?_, some _, some _, some _, some _, rfl⟩
      rw [tk, List.map_append]
      generalize hX : (slXs ((cn w c).take i)).map termD = X
      have lX : X.length ≤ 364 := by rw [← hX, List.length_map]; exact ln
      have q1 : X.length < LL := by unfold LL; omega
      have q2 : X.length + 1 < LL := by unfold LL; omega
      have q3 : X.length + 1 + 1 < LL := by unfold LL; omega
      have q4 : X.length + 1 + 1 + 1 < LL := by unfold LL; omega
      unfold lb_slope_0
      rw [s_app (l := X) (d := termD ((y.1.1 + 1, y.1.2.1, y.1.2.2), y.2 * rt (y.1.1 + 4 * y.1.2.1 + 6 * y.1.2.2) 12)) rfl (by simp [LL, bin_mul m4, bin_mul m6, r1, termD]) q1]
      simp only [List.set_cons_succ, List.set_cons_zero]
      rw [s_app (d := termD ((y.1.1 - 1, y.1.2.1 + 1, y.1.2.2), y.2 * rt (-y.1.1) 12)) rfl (by simp [LL, r2, termD]) (by simp; omega)]
      simp only [List.set_cons_succ, List.set_cons_zero]
      rw [s_app (d := termD ((y.1.1, y.1.2.1 - 1, y.1.2.2 + 1), y.2 * rt (-y.1.2.1) 3)) rfl (by simp [LL, r3, termD]) (by simp; omega)]
      simp only [List.set_cons_succ, List.set_cons_zero]
      rw [s_app (d := termD ((y.1.1, y.1.2.1 + 2, y.1.2.2 - 1), y.2 * rt (-y.1.2.2) 2)) rfl (by simp [LL, r4, termD]) (by simp; omega)]
      simp only [List.set_cons_succ, List.set_cons_zero, exSs_nil]
      simp [slR])
  rw [List.length_map, List.take_length] at h1
  have cp : ∀ b, ev (call P C (n + 4)) C [.sh (FD w c), .own (.lst ((slXs (cn w c)).map termD)), us o2, us o3, us o4, us o5, .un] b cp_slope_0 = .ok (.lst (((slXs (cn w c)).filter fun x => decide (x.2 ≠ 0)).map termD)) := fun b => by
    unfold cp_slope_0
    refine comp_fil termD (fun x => decide (x.2 ≠ 0)) _ (by simp) (by rw [slXs_len]; unfold LL; omega) fun x hx => ⟨[.sh (FD w c), .own (.lst ((slXs (cn w c)).map termD)), us o2, us o3, us o4, us o5, .sh (termD x)], by simp [wipeE, stE_nl], ?_, fun _ => by simp⟩
    have i3 : idxV (termD x) (.int 3) = .ok (frD x.2) := ixT3 _ _ _ _ _
    have e : cmpV .ne (frD x.2) (frD 0) = .ok (decide (x.2 ≠ 0)) := by
      rw [ne_fr]
      by_cases z : x.2 = 0 <;> simp [z]
    simp only [ev_cmp, ev_idx, ev_var, ev_int, ev_glb, c0, List.getElem?_cons_succ, List.getElem?_cons_zero, R.bind_ok, i3, e, ofB_ok]
  have cw := check_weight_at (n := n + 3) (w := (w : Int) + 2) (by omega)
  have cw : call P C (n + 4) n_check_weight [.int ((w : Int) + 2)] = .ok .non := cw
  refine call_run rfl rfl (ρ := [.sh (FD w c), .un, .un, .un, .un, .un, .un]) rfl ?_
  unfold fd_slope
  rw [s_run (ρ' := [.sh (FD w c), .un, .un, .un, .un, .un, .un]) (by simp [FD_ix0, cw])]
  rw [s_own (l := []) (by simp [LL]) (by rfl)]
  simp only [List.set_cons_succ, List.set_cons_zero]
  refine (congrArg fin (s_run h1)).trans ?_
  rw [s_ret (d := FD (w + 2) (slC w c)) (by
    simp only [ev_call, evs_cons, evs_nil, ev_bin, ev_idx, ev_var, ev_int, cp, List.getElem?_cons_succ, List.getElem?_cons_zero, R.bind_ok, FD_ix0, bin_add]
    exact g1)]
  rfl
theorem slope_no {n w : Nat} {c : K3 → Rat} (hw : 60 < w + 2) : call P C (n + 2) n_slope [FD w c] = .exc ex_TooHeavy := by
  have c0 : C gl_HEAVIEST = .int 60 := rfl
  have cw : call P C (n + 1) n_check_weight [.int ((w : Int) + 2)] = .exc ex_TooHeavy := by
    have nn : (60 : Int) < (w : Int) + 2 := by omega
    refine call_run rfl rfl (ρ := [.sh (.int ((w : Int) + 2))]) rfl ?_
    simp [fd_check_weight, c0, nn]
  refine call_run rfl rfl (ρ := [.sh (FD w c), .un, .un, .un, .un, .un, .un]) rfl ?_
  simp [fd_slope, FD_ix0, cw]
/-! the law's slopes of forms -/
theorem rt_add (a b c : Int) : rt a 12 + rt b 3 + rt c 2 = rt (a + 4 * b + 6 * c) 12 := by
  unfold rt
  rw [Rat.divInt_eq_div, Rat.divInt_eq_div, Rat.divInt_eq_div, Rat.divInt_eq_div, Rat.intCast_add, Rat.intCast_add, Rat.intCast_mul, Rat.intCast_mul]
  show (a : Rat) / 12 + (b : Rat) / 3 + (c : Rat) / 2 = ((a : Rat) + 4 * (b : Rat) + 6 * (c : Rat)) / 12
  grind
abbrev K5 := K3 × Int × Int
def enc5 (z : K5) : D := .tup [trD z.1, .int z.2.1, .int z.2.2]
def sl6a (k : K3) : List K5 := [((k.1 + 1, k.2.1, k.2.2), k.1, 12), ((k.1 - 1, k.2.1 + 1, k.2.2), -k.1, 12), ((k.1 + 1, k.2.1, k.2.2), k.2.1, 3), ((k.1, k.2.1 - 1, k.2.2 + 1), -k.2.1, 3)]
def sl6b (k : K3) : List K5 := [((k.1 + 1, k.2.1, k.2.2), k.2.2, 2), ((k.1, k.2.1 + 2, k.2.2 - 1), -k.2.2, 2)]
def slR6 (x : K3 × Rat) : List (K3 × Rat) := (sl6a x.1 ++ sl6b x.1).map fun z => (z.1, x.2 * rt z.2.1 z.2.2)
theorem slR6_eq (x : K3 × Rat) (k : K3) : lsm (slR6 x) k = lsm (slR x) k := by
  have e := rt_add x.1.1 x.1.2.1 x.1.2.2
  simp only [slR6, sl6a, sl6b, List.map_append, List.map_cons, List.map_nil, List.cons_append, List.nil_append, lsm, slR]
  rw [← e]
  split <;> grind
theorem slXs6_eq (xs : List (K3 × Rat)) (k : K3) : lsm (xs.flatMap slR6) k = lsm (slXs xs) k := by
  induction xs with
  | nil => rfl
  | cons x r ih =>
    unfold slXs at ih ⊢
    rw [List.flatMap_cons, List.flatMap_cons, lsm_app, lsm_app, ih, slR6_eq]
theorem slXs6_len (xs : List (K3 × Rat)) : (xs.flatMap slR6).length = 6 * xs.length := by
  induction xs with
  | nil => rfl
  | cons x r ih =>
    rw [List.flatMap_cons, List.length_append, ih, List.length_cons]
    show 6 + _ = _
    omega
theorem sl6_mem {w : Nat} (hw : w ≤ 60) {k : K3} (h : KW w k) {z : K5} (hz : z ∈ sl6a k ++ sl6b k) : z.2.1.natAbs < 2 ^ 8 ∧ 0 < z.2.2 ∧ z.2.2 ≤ 12 ∧ Zb 12 (2 ^ 10) (rt z.2.1 z.2.2) := by
  have := h.in hw
  unfold sl6a sl6b at hz
  simp only [List.cons_append, List.nil_append, List.mem_cons, List.not_mem_nil, or_false] at hz
  rcases hz with rfl | rfl | rfl | rfl | rfl | rfl
  · exact ⟨by dsimp only; omega, by dsimp only; omega, by dsimp only; omega, rt_zb 1 (by dsimp only; omega) (by dsimp only; omega) (by dsimp only; omega)⟩
  · exact ⟨by dsimp only; omega, by dsimp only; omega, by dsimp only; omega, rt_zb 1 (by dsimp only; omega) (by dsimp only; omega) (by dsimp only; omega)⟩
  · exact ⟨by dsimp only; omega, by dsimp only; omega, by dsimp only; omega, rt_zb 4 (by dsimp only; omega) (by dsimp only; omega) (by dsimp only; omega)⟩
  · exact ⟨by dsimp only; omega, by dsimp only; omega, by dsimp only; omega, rt_zb 4 (by dsimp only; omega) (by dsimp only; omega) (by dsimp only; omega)⟩
  · exact ⟨by dsimp only; omega, by dsimp only; omega, by dsimp only; omega, rt_zb 6 (by dsimp only; omega) (by dsimp only; omega) (by dsimp only; omega)⟩
  · exact ⟨by dsimp only; omega, by dsimp only; omega, by dsimp only; omega, rt_zb 6 (by dsimp only; omega) (by dsimp only; omega) (by dsimp only; omega)⟩
theorem l_slope_cn {n w b a : Nat} {c : K3 → Rat} (hw : w + 2 ≤ 60) (h : SZ w b a c) (hb : b ≤ 4400) (ha : a ≤ 4000000) : call P C (n + 5) n_l_slope [FD w c] = .ok (FD (w + 2) (slC w c)) := by
  have hw2 : w ≤ 60 := by omega
  have l1 := cn_len hw2 c
  obtain ⟨B, b1, b2, b3⟩ := h.cn
  have s2m := fun {x} hx => h.s2m (x := x) hx
  have kwm : ∀ x ∈ cn w c, KW w x.1 := fun x hx => (cn_mem.mp hx).1
  obtain ⟨xs, hxs⟩ : ∃ xs, xs = cn w c := ⟨_, rfl⟩
  rw [← hxs] at l1 b3 s2m kwm
  have Bp : 0 < B * 12 := Nat.mul_pos b1 (by decide)
  have Bl : B * 12 < 2 ^ (b + 4) := by rw [Nat.pow_add]; exact Nat.mul_lt_mul'' b2 (by decide)
  have hz : ∀ x ∈ xs, ∀ z ∈ sl6a x.1 ++ sl6b x.1, Zb (B * 12) (2 ^ (a + 10)) (x.2 * rt z.2.1 z.2.2) := fun x hx z hz => by
    rw [Nat.pow_add]
    exact (b3 x hx).mul (sl6_mem hw2 (kwm x hx) hz).2.2.2
  have big : ∀ k (L : List (K3 × Rat)), (∀ y ∈ L, ∃ x ∈ xs, ∃ z ∈ sl6a x.1 ++ sl6b x.1, y = (z.1, x.2 * rt z.2.1 z.2.2)) → L.length ≤ 1000 → S2 (a + 21) (b + 4) (lsm L k) := fun k L hL hl => by
    have z := lsm_zb (B := B * 12) (A := 2 ^ (a + 10)) (xs := L) (fun y hy => by
      obtain ⟨x, hx, z, hz', rfl⟩ := hL y hy
      exact hz x hx z hz') k
    refine z.s2 Bp ?_ Bl
    rw [show a + 21 = a + 10 + 11 from rfl, Nat.pow_add 2 (a + 10) 11, Nat.mul_comm (2 ^ (a + 10))]
    have p := Nat.two_pow_pos (a + 10)
    exact Nat.lt_of_le_of_lt (Nat.mul_le_mul_right _ hl) (Nat.mul_lt_mul_of_pos_right (by decide) p)
  have mmem : ∀ i, ∀ y ∈ (xs.take i).flatMap slR6, ∃ x ∈ xs, ∃ z ∈ sl6a x.1 ++ sl6b x.1, y = (z.1, x.2 * rt z.2.1 z.2.2) := fun i y hy => by
    obtain ⟨x, hx, hy⟩ := List.mem_flatMap.mp hy
    obtain ⟨z, hz', e⟩ := List.mem_map.mp hy
    exact ⟨x, List.mem_of_mem_take hx, z, hz', e.symm⟩
  obtain ⟨ρ2, h2, tb2, o2, o3, o4, o5, o6, o7, o8, o9, rfl, t2⟩ := for_atI (Φ := call P C (n + 4)) (ρ := [.sh (FD w c), .own (.dT (([] : List (K3 × Rat)).map encT)), us none, us none, us none, us none, us none, us none, us none, us none]) (t := .tup (.cons (.var 2) (.cons (.var 3) (.cons (.var 4) (.cons (.var 5) .nil))))) (s := .it (.idx (.var 0) (.int 1))) (body := lb_l_slope_1) (l := xs.map termD)
    (fun i ρ => ∃ tb o2 o3 o4 o5 o6 o7 o8 o9, ρ = [.sh (FD w c), .own (.dT (tb.map encT)), us o2, us o3, us o4, us o5, us o6, us o7, us o8, us o9] ∧ TbL tb ((xs.take i).flatMap slR6)) (by simp [FD_ix1, hxs])
    ⟨[], none, none, none, none, none, none, none, none, rfl, by rw [List.take_zero]; exact TbL.nil⟩ (fun i x ρ hxi ⟨tb, o2, o3, o4, o5, o6, o7, o8, o9, e, ht⟩ => by
      subst e
      rw [List.getElem?_map] at hxi
      obtain ⟨x, hx, rfl⟩ := Option.map_eq_some_iff.mp hxi
      have hxm := List.mem_of_getElem? hx
      obtain ⟨zs, hzs⟩ : ∃ zs, zs = sl6a x.1 ++ sl6b x.1 := ⟨_, rfl⟩
      have lz : zs.length = 6 := by rw [hzs]; rfl
      have lx := slXs6_len (xs.take i)
      have lxi : (xs.take i).length ≤ 91 := by rw [List.length_take]; omega
      obtain ⟨ρ3, h3, tb3, p7, p8, p9, rfl, t3⟩ := for_atI (Φ := call P C (n + 4)) (ρ := [.sh (FD w c), .own (.dT (tb.map encT)), .sh (.int x.1.1), .sh (.int x.1.2.1), .sh (.int x.1.2.2), .sh (frD x.2), .sh (.lst ((sl6a x.1).map enc5)), us o7, us o8, us o9]) (t := .tup (.cons (.var 7) (.cons (.var 8) (.cons (.var 9) .nil)))) (s := .it (.bin .add (.var 6) (.lst (.cons (.tup (.cons (.tup (.cons (.bin .add (.var 2) (.int 1)) (.cons (.var 3) (.cons (.var 4) .nil)))) (.cons (.var 4) (.cons (.int 2) .nil)))) (.cons (.tup (.cons (.tup (.cons (.var 2) (.cons (.bin .add (.var 3) (.int 2)) (.cons (.bin .sub (.var 4) (.int 1)) .nil)))) (.cons (.neg (.var 4)) (.cons (.int 2) .nil)))) .nil))))) (body := lb_l_slope_0) (l := zs.map enc5)
        (fun j ρ => ∃ tb o7 o8 o9, ρ = [.sh (FD w c), .own (.dT (tb.map encT)), .sh (.int x.1.1), .sh (.int x.1.2.1), .sh (.int x.1.2.2), .sh (frD x.2), .sh (.lst ((sl6a x.1).map enc5)), us o7, us o8, us o9] ∧ TbL tb ((xs.take i).flatMap slR6 ++ (zs.take j).map fun z => (z.1, x.2 * rt z.2.1 z.2.2))) (by
          rw [hzs, List.map_append]
          have e : Rv.bin .add (.lst ((sl6a x.1).map enc5)) (.lst ((sl6b x.1).map enc5)) = .ok (.lst ((sl6a x.1).map enc5 ++ (sl6b x.1).map enc5)) := bin_cat (by simp [sl6a, sl6b, LL])
          have e2 : D.lst ((sl6b x.1).map enc5) = .lst [.tup [.tup [.int (x.1.1 + 1), .int x.1.2.1, .int x.1.2.2], .int x.1.2.2, .int 2], .tup [.tup [.int x.1.1, .int (x.1.2.1 + 2), .int (x.1.2.2 - 1)], .int (-x.1.2.2), .int 2]] := rfl
          rw [e2] at e
          simp [LL, e])
        ⟨tb, o7, o8, o9, rfl, by rw [List.take_zero, List.map_nil, List.append_nil]; exact ht⟩ (fun j z ρ hzj ⟨tb, o7, o8, o9, e, ht⟩ => by
          subst e
          rw [List.getElem?_map] at hzj
          obtain ⟨z, hz1, rfl⟩ := Option.map_eq_some_iff.mp hzj
          have hzm : z ∈ sl6a x.1 ++ sl6b x.1 := by rw [← hzs]; exact List.mem_of_getElem? hz1
          obtain ⟨z1, z2, z3, z4⟩ := sl6_mem hw2 (kwm x hxm) hzm
          have fr := l_frac_at (n := n + 2) (t := z.2.1) (b := z.2.2) z2 (le9000 (k := 10) (by omega) (by decide))
          have fr : call P C (n + 4) n_l_frac [.int z.2.1, .int z.2.2] = .ok (frD (rt z.2.1 z.2.2)) := fr
          have rs : S2 11 4 (rt z.2.1 z.2.2) := z4.s2 (by decide) (by decide) (by decide)
          have mu := l_mul_at2 (n := n + 1) (s2m hxm) rs (by omega) (by omega) (by omega)
          have mu : call P C (n + 4) n_l_mul [frD x.2, frD (rt z.2.1 z.2.2)] = .ok (frD (x.2 * rt z.2.1 z.2.2)) := mu
          have lt : ((xs.take i).flatMap slR6 ++ (zs.take j).map fun z => (z.1, x.2 * rt z.2.1 z.2.2)).length ≤ 1000 := by
            have l2 : (zs.take j).length ≤ 6 := by rw [List.length_take]; omega
            rw [List.length_append, lx, List.length_map]; omega
          have s1 := big z.1 ((xs.take i).flatMap slR6 ++ (zs.take j).map fun z => (z.1, x.2 * rt z.2.1 z.2.2)) (fun y hy => (List.mem_append.mp hy).elim (mmem i y) fun h => by
            obtain ⟨z', hz', e⟩ := List.mem_map.mp h
            have hz' := List.mem_of_mem_take hz'
            rw [hzs] at hz'
            exact ⟨x, hxm, z', hz', e.symm⟩) lt
          have s2 : S2 (a + 21) (b + 4) (x.2 * rt z.2.1 z.2.2) := (hz x hxm z hzm).s2 Bp (Nat.pow_lt_pow_right (by decide) (by omega)) Bl
          have ac := l_acc (n := n + 1) (i := 1) (ρ := [.sh (FD w c), .own (.dT (tb.map encT)), .sh (.int x.1.1), .sh (.int x.1.2.1), .sh (.int x.1.2.2), .sh (frD x.2), .sh (.lst ((sl6a x.1).map enc5)), .sh (trD z.1), .sh (.int z.2.1), .sh (.int z.2.2)]) (key := .var 7) (E := .call n_l_mul (.cons (.var 5) (.cons (.call n_l_frac (.cons (.var 8) (.cons (.var 9) .nil))) .nil))) (k := z.1) (v := x.2 * rt z.2.1 z.2.2) ht
            (by omega) rfl (by simp) (by simp [fr, mu]) s1 s2 (by omega) (by omega)
          refine ⟨[.sh (FD w c), .own (.dT (tb.map encT)), .sh (.int x.1.1), .sh (.int x.1.2.1), .sh (.int x.1.2.2), .sh (frD x.2), .sh (.lst ((sl6a x.1).map enc5)), .sh (trD z.1), .sh (.int z.2.1), .sh (.int z.2.2)], [.sh (FD w c), .own (.dT ((putA tb z.1 (lsm ((xs.take i).flatMap slR6 ++ (zs.take j).map fun z => (z.1, x.2 * rt z.2.1 z.2.2)) z.1 + x.2 * rt z.2.1 z.2.2)).map encT)), .sh (.int x.1.1), .sh (.int x.1.2.1), .sh (.int x.1.2.2), .sh (frD x.2), .sh (.lst ((sl6a x.1).map enc5)), .sh (trD z.1), .sh (.int z.2.1), .sh (.int z.2.2)], by simp [enc5, stE_nl], .inl (by unfold lb_l_slope_0; rw [s_run ac, exSs_nil]; rfl), putA tb z.1 (lsm ((xs.take i).flatMap slR6 ++ (zs.take j).map fun z => (z.1, x.2 * rt z.2.1 z.2.2)) z.1 + x.2 * rt z.2.1 z.2.2), some _, some _, some _, rfl, ?_⟩
          have pp := ht.put z.1 (x.2 * rt z.2.1 z.2.2)
          rw [List.take_succ, hz1, List.map_append, ← List.append_assoc]
          exact pp)
      rw [List.length_map, List.take_length] at t3
      refine ⟨[.sh (FD w c), .own (.dT (tb.map encT)), .sh (.int x.1.1), .sh (.int x.1.2.1), .sh (.int x.1.2.2), .sh (frD x.2), us o6, us o7, us o8, us o9], [.sh (FD w c), .own (.dT (tb3.map encT)), .sh (.int x.1.1), .sh (.int x.1.2.1), .sh (.int x.1.2.2), .sh (frD x.2), .sh (.lst ((sl6a x.1).map enc5)), us p7, us p8, us p9], by simp [termD, stE_nl], .inl ?_, tb3, some _, some _, some _, some _, some _, p7, p8, p9, rfl, ?_⟩
      · unfold lb_l_slope_1 lp_l_slope_0
        rw [s_asg (d := .lst ((sl6a x.1).map enc5)) (by simp [LL]; rfl) (by simp)]
        simp only [List.set_cons_succ, List.set_cons_zero]
        rw [s_run h3, exSs_nil]
      · have e : (xs.take (i + 1)).flatMap slR6 = (xs.take i).flatMap slR6 ++ slR6 x := by
          rw [List.take_succ, hx, List.flatMap_append]
          simp
        rw [e]
        rw [hzs] at t3
        exact t3)
  rw [List.length_map, List.take_length] at t2
  have gg := l_gathered_cn (n := n + 3) (w := w + 2) hw t2 (by rw [slXs6_len]; omega) (fun k hk => by
    rw [slXs6_eq, ← lsm_fil]
    refine lsm_none fun y hy e => hk ?_
    obtain ⟨hy, hz'⟩ := List.mem_filter.mp hy
    obtain ⟨x, hx, hy⟩ := List.mem_flatMap.mp hy
    rw [← e]
    exact slR_KW (kwm x hx) hy (of_decide_eq_true hz')) (e := .int ((w : Int) + 2)) (by simp)
  have gg : call P C (n + 4) n_l_gathered [.int ((w : Int) + 2), .dT (tb2.map encT)] = .ok (FD (w + 2) (lsm (xs.flatMap slR6))) := gg
  rw [show lsm (xs.flatMap slR6) = slC w c from funext fun k => by rw [slXs6_eq, hxs]; rfl] at gg
  refine call_run rfl rfl (ρ := [.sh (FD w c), .un, .un, .un, .un, .un, .un, .un, .un, .un]) rfl ?_
  unfold fd_l_slope
  dsimp only
  rw [exSs_cons, exS_dnw, stE_nl (by rfl)]
  simp only [Out.ofR_ok, List.set_cons_succ, List.set_cons_zero, if_true]
  refine (congrArg fin (s_run h2)).trans ?_
  simp only [exSs_frz, frzE, List.getElem?_cons_succ, List.getElem?_cons_zero, List.set_cons_succ, List.set_cons_zero]
  rw [s_ret (d := FD (w + 2) (slC w c)) (by simp [FD_ix0, gg])]
  rfl
/-! plain forms -/
theorem is_plain_at {n a d : Nat} {w : Int} {ts : List (K3 × Rat)} (h : FW a d ts) : call P C (n + 2) n_is_plain [formD w ts] = .ok (.bl (decide (mxd (ts.map (prt 0)) = 0))) := by
  refine call_run rfl rfl (ρ := [.sh (formD w ts)]) rfl ?_
  have dp := depth_at (n := n) (w := w) h
  simp [fd_is_plain, dp]
theorem mx_depth {a d : Nat} {ts : List (K3 × Rat)} (h : FW a d ts) : mostI 0 (ts.map (prt 0)) = mxd (ts.map (prt 0)) := by
  have po := prt_ok h (w := 0) (by decide)
  refine mostI_eq ?_ fun y hy => ?_
  · cases ts with
    | nil => exact List.mem_cons_self
    | cons x r => exact List.mem_cons_of_mem _ (mostI_mem _ _).2
  · rcases List.mem_cons.mp hy with rfl | hy
    · exact po.1
    · exact mxd_ge hy
/-! slopes one after the other, brackets -/
def slI (w : Nat) (c : K3 → Rat) : Nat → K3 → Rat
  | 0 => c
  | i + 1 => slC (w + 2 * i) (slI w c i)
theorem slI_sz {w b a : Nat} {c : K3 → Rat} (h : SZ w b a c) (hb : b ≤ 400) (ha : a ≤ 10000) : ∀ i, w + 2 * i ≤ 60 → SZ (w + 2 * i) (b + 4 * i) (a + 26 * i) (slI w c i)
  | 0, _ => h
  | i + 1, hi => by
    have := (slope_cn (n := 0) (show w + 2 * i + 2 ≤ 60 by omega) (slI_sz h hb ha i (by omega)) (by omega) (by omega)).2
    rw [show w + 2 * i + 2 = w + 2 * (i + 1) by omega, show b + 4 * i + 4 = b + 4 * (i + 1) by omega, show a + 26 * i + 26 = a + 26 * (i + 1) by omega] at this
    exact this
def slD (w : Nat) (c : K3 → Rat) (i : Nat) : D := FD (w + 2 * i) (slI w c i)
theorem ix_last {i : Nat} {F : Nat → D} : idxV (.lst (tab (i + 1) F)) (.int (-1)) = .ok (F i) := by
  have h : atI (tab (i + 1) F) (-1) = some (F i) := by
    unfold atI
    have e : ixN (tab (i + 1) F).length (-1) = some i := by
      rw [tab_length]
      simp [ixN]
      omega
    rw [e]
    exact tab_get (by omega)
  simp only [idxV, ixD, h]
theorem slope_step {n w b a i : Nat} {c : K3 → Rat} (h : SZ w b a c) (hb : b ≤ 400) (ha : a ≤ 10000) (hi : w + 2 * (i + 1) ≤ 60) : call P C (n + 5) n_slope [slD w c i] = .ok (slD w c (i + 1)) := by
  have := (slope_cn (n := n) (show w + 2 * i + 2 ≤ 60 by omega) (slI_sz h hb ha i (by omega)) (by omega) (by omega)).1
  rw [show w + 2 * i + 2 = w + 2 * (i + 1) by omega] at this
  exact this
theorem l_slope_step {n w b a i : Nat} {c : K3 → Rat} (h : SZ w b a c) (hb : b ≤ 400) (ha : a ≤ 10000) (hi : w + 2 * (i + 1) ≤ 60) : call P C (n + 5) n_l_slope [slD w c i] = .ok (slD w c (i + 1)) := by
  have := l_slope_cn (n := n) (show w + 2 * i + 2 ≤ 60 by omega) (slI_sz h hb ha i (by omega)) (by omega) (by omega)
  rw [show w + 2 * i + 2 = w + 2 * (i + 1) by omega] at this
  exact this
theorem slopes_at {n w b a m : Nat} {c : K3 → Rat} (h : SZ w b a c) (hb : b ≤ 400) (ha : a ≤ 10000) (hm : w + 2 * m ≤ 60) : call P C (n + 6) n_slopes [FD w c, .int (m : Int)] = .ok (.lst (tab (m + 1) (slD w c))) := by
  have hr : rngOk (m : Int) := ⟨by omega, by omega⟩
  obtain ⟨ρ', h1, o3, rfl⟩ := for_rngI (Φ := call P C (n + 5)) (ρ := [.sh (FD w c), .sh (.int (m : Int)), .own (.lst (tab (0 + 1) (slD w c))), us none]) (i := 3) (s := .rng (.cons (.var 1) .nil)) (body := lb_slopes_0) (lo := 0) (n := m)
    (fun i ρ => ∃ o3, ρ = [.sh (FD w c), .sh (.int (m : Int)), .own (.lst (tab (i + 1) (slD w c))), us o3]) (by simp [rng1 hr]) ⟨none, rfl⟩ (fun i ρ hi ⟨o3, e⟩ => by
      subst e
      have ix := ix_last (i := i) (F := slD w c)
      have st := slope_step (n := n) (i := i) h hb ha (by omega)
      have ln : (tab (i + 1) (slD w c)).length < LL := by rw [tab_length]; unfold LL; omega
      have sc : tab (i + 1 + 1) (slD w c) = tab (i + 1) (slD w c) ++ [slD w c (i + 1)] := tab_succ
      rw [sc]
      generalize tab (i + 1) (slD w c) = FL at ix ln ⊢
      refine ⟨[.sh (FD w c), .sh (.int (m : Int)), .own (.lst FL), .sh (.int (0 + (i : Int)))], [.sh (FD w c), .sh (.int (m : Int)), .own (.lst (FL ++ [slD w c (i + 1)])), .sh (.int (0 + (i : Int)))], by simp only [setT_var]; exact stE_nl (by simp), .inl ?_, some _, rfl⟩
      unfold lb_slopes_0
      rw [s_app (l := FL) (d := slD w c (i + 1)) rfl (by simp [ix, st]) ln, exSs_nil]; rfl)
  refine call_run rfl rfl (ρ := [.sh (FD w c), .sh (.int (m : Int)), .un, .un]) rfl ?_
  unfold fd_slopes
  dsimp only
  rw [s_own (l := [FD w c]) (by simp [LL]) (by rfl)]
  simp only [List.set_cons_succ, List.set_cons_zero]
  refine (congrArg fin (s_run h1)).trans ?_
  generalize tab (m + 1) (slD w c) = FL
  simp only [exSs_frz, frzE, List.getElem?_cons_succ, List.getElem?_cons_zero, List.set_cons_succ, List.set_cons_zero]
  rw [s_ret (d := .lst FL) (by simp)]
  rfl
/-! numbers of ways at and under the edge -/
theorem wyZ_b : ∀ m : Fin 63, ∀ k : Fin 63, k.1 ≤ m.1 → (wy ((m.1 : Int) - 1) k.1).natAbs < 2 ^ 62 := by decide +kernel
theorem wyZ_lt {m : Int} {k : Nat} (h0 : -1 ≤ m) (h1 : m ≤ 61) (hk : (k : Int) ≤ m + 1) : (wy m k).natAbs < 2 ^ 62 := by
  have := wyZ_b ⟨(m + 1).toNat, by omega⟩ ⟨k, by omega⟩ (by dsimp only; omega)
  dsimp only at this
  rw [show (((m + 1).toNat : Nat) : Int) - 1 = m by omega] at this
  exact this
theorem ways_atZ {n s : Nat} {m : Int} (h0 : -1 ≤ m) (hm : m ≤ 61) (hs : (s : Int) ≤ m + 1) : call P C (n + 1) n_ways [.int m, .int s] = .ok (.int (wy m s)) := by
  have hr : rngOk (s : Int) := ⟨by omega, by omega⟩
  obtain ⟨ρ', h1, o, rfl⟩ := for_rngI (Φ := call P C n) (ρ := [.sh (.int m), .sh (.int s), .sh (.int (wy m 0)), us none]) (i := 3) (s := .rng (.cons (.var 1) .nil)) (body := lb_ways_0) (lo := 0) (n := s)
    (fun i ρ => ∃ o, ρ = [.sh (.int m), .sh (.int s), .sh (.int (wy m i)), us o]) (by simp [rng1 hr]) ⟨none, rfl⟩ (fun i ρ hi ⟨o, e⟩ => by
      subst e
      have mm : mulOk (wy m i) (m - (i : Nat)) := mulOk_l (Nat.lt_trans (wyZ_lt h0 hm (show ((i : Nat) : Int) ≤ m + 1 by omega)) (by decide))
      have md : divOk ((i : Nat) + 1 : Int) := divOk_s (by omega) (by omega)
      refine ⟨[.sh (.int m), .sh (.int s), .sh (.int (wy m i)), .sh (.int (0 + (i : Int)))], [.sh (.int m), .sh (.int s), .sh (.int (wy m (i + 1))), .sh (.int (0 + (i : Int)))], by simp only [setT_var]; exact stE_nl (by simp), .inl ?_, some _, rfl⟩
      simp [lb_ways_0, stE_set, bin_mul mm, bin_fdv md, wy])
  refine call_run rfl rfl (ρ := [.sh (.int m), .sh (.int s), .un, .un]) rfl ?_
  have h1 : exS (call P C n) C lp_ways_0 [.sh (.int m), .sh (.int s), .sh (.int 1), .un] = .nx [.sh (.int m), .sh (.int s), .sh (.int (wy m s)), us o] := h1
  simp [fd_ways, stE_set, h1]
theorem l_ways_atZ {n s : Nat} {m : Int} (h0 : -1 ≤ m) (hm : m ≤ 61) (hs : (s : Int) ≤ m + 1) : call P C (n + 1) n_l_ways [.int m, .int s] = .ok (.int (wy m s)) := by
  have hr : rngOk (s : Int) := ⟨by omega, by omega⟩
  obtain ⟨ρ', h1, o, rfl⟩ := for_rngI (Φ := call P C n) (ρ := [.sh (.int m), .sh (.int s), .sh (.int (wy m 0)), us none]) (i := 3) (s := .rng (.cons (.var 1) .nil)) (body := lb_l_ways_0) (lo := 0) (n := s)
    (fun i ρ => ∃ o, ρ = [.sh (.int m), .sh (.int s), .sh (.int (wy m i)), us o]) (by simp [rng1 hr]) ⟨none, rfl⟩ (fun i ρ hi ⟨o, e⟩ => by
      subst e
      have mm : mulOk (wy m i) (m - (i : Nat)) := mulOk_l (Nat.lt_trans (wyZ_lt h0 hm (show ((i : Nat) : Int) ≤ m + 1 by omega)) (by decide))
      have md : divOk ((i : Nat) + 1 : Int) := divOk_s (by omega) (by omega)
      refine ⟨[.sh (.int m), .sh (.int s), .sh (.int (wy m i)), .sh (.int (0 + (i : Int)))], [.sh (.int m), .sh (.int s), .sh (.int (wy m (i + 1))), .sh (.int (0 + (i : Int)))], by simp only [setT_var]; exact stE_nl (by simp), .inl ?_, some _, rfl⟩
      simp [lb_l_ways_0, stE_set, bin_mul mm, bin_fdv md, wy])
  refine call_run rfl rfl (ρ := [.sh (.int m), .sh (.int s), .un, .un]) rfl ?_
  have h1 : exS (call P C n) C lp_l_ways_0 [.sh (.int m), .sh (.int s), .sh (.int 1), .un] = .nx [.sh (.int m), .sh (.int s), .sh (.int (wy m s)), us o] := h1
  simp [fd_l_ways, stE_set, h1]
/-! the bracket -/
def bld (w u m r : Nat) : Int := wy ((w : Int) + m - 1) (m - r) * wy ((u : Int) + m - 1) r * (1 - 2 * ((r : Int) % 2))
def bkC (w u m : Nat) (c d : K3 → Rat) : Nat → K3 → Rat
  | 0 => fun _ => 0
  | r + 1 => fun k => bkC w u m c d r k + mulC (w + 2 * r) (u + 2 * (m - r)) (slI w c r) (slI u d (m - r)) k * ((bld w u m r : Int) : Rat)
theorem SZ.zero (w : Nat) : SZ w 1 0 fun _ => 0 := ⟨1, by decide, by decide, fun _ _ => Zb.zero 1 _⟩
theorem bld_lt {w u m r : Nat} (hw : w + u + 2 * m ≤ 60) (hr : r ≤ m) : (wy ((w : Int) + m - 1) (m - r)).natAbs < 2 ^ 62 ∧ (wy ((u : Int) + m - 1) r).natAbs < 2 ^ 62 ∧ (bld w u m r).natAbs < 2 ^ 124 := by
  have h1 := wyZ_lt (m := (w : Int) + m - 1) (k := m - r) (by omega) (by omega) (by omega)
  have h2 := wyZ_lt (m := (u : Int) + m - 1) (k := r) (by omega) (by omega) (by omega)
  refine ⟨h1, h2, ?_⟩
  unfold bld
  rw [Int.natAbs_mul, Int.natAbs_mul]
  have h3 : (1 - 2 * ((r : Int) % 2)).natAbs ≤ 1 := by omega
  have h4 := Nat.mul_lt_mul'' h1 h2
  refine Nat.lt_of_le_of_lt (Nat.mul_le_mul_left _ h3) ?_
  rw [Nat.mul_one]
  exact Nat.lt_of_lt_of_le h4 (by decide)
/-! the walk of the bracket and of the law's -/
theorem bk_step {n w u m r : Nat} {c d : K3 → Rat} (hc : SZ w 121 161 c) (hd : SZ u 121 161 d) (hw : w + u + 2 * m ≤ 60) (hm : m ≤ 10) (hr : r ≤ m) (hk : SZ (w + u + 2 * m) (283 * r + 1) (5000 * r) (bkC w u m c d r)) :
    ∃ x, call P C (n + 5) n_form_product [slD w c r, slD u d (m - r)] = .ok x ∧ call P C (n + 5) n_l_form_product [slD w c r, slD u d (m - r)] = .ok x ∧ (∃ y, call P C (n + 5) n_form_times [x, frD ((bld w u m r : Int) : Rat)] = .ok y ∧ call P C (n + 5) n_form_sum [FD (w + u + 2 * m) (bkC w u m c d r), y] = .ok (FD (w + u + 2 * m) (bkC w u m c d (r + 1)))) ∧
      call P C (n + 5) n_l_form_sum [FD (w + u + 2 * m) (bkC w u m c d r), x, frD ((bld w u m r : Int) : Rat)] = .ok (FD (w + u + 2 * m) (bkC w u m c d (r + 1))) ∧ SZ (w + u + 2 * m) (283 * (r + 1) + 1) (5000 * (r + 1)) (bkC w u m c d (r + 1)) := by
  have s1 := slI_sz hc (by decide) (by decide) r (by omega)
  have s2 := slI_sz hd (by decide) (by decide) (m - r) (by omega)
  obtain ⟨f1, s3⟩ := form_product_cn (n := n) (w := w + 2 * r) (w' := u + 2 * (m - r)) (by omega) s1 s2 (by omega) (by omega) (by omega)
  have g1 := l_form_product_cn (n := n) (w := w + 2 * r) (w' := u + 2 * (m - r)) (by omega) s1 s2 (by omega) (by omega) (by omega)
  have s3 := s3.mono (show _ ≤ 282 by omega) (show _ ≤ 596 by omega)
  rw [show w + 2 * r + (u + 2 * (m - r)) = w + u + 2 * m by omega] at f1 g1 s3
  have sq : S2 124 1 ((bld w u m r : Int) : Rat) := s2_int (bld_lt hw hr).2.2
  obtain ⟨f2, s4⟩ := form_times_cn (n := n) hw s3 sq (by decide) (by decide) (by decide)
  obtain ⟨f3, s5⟩ := form_sum_cn (n := n) hw hk s4 (by omega) (by omega) (by decide)
  have g2 := l_form_sum_cn (n := n) hw hk s3 sq (by omega) (by omega) (by decide) (by decide)
  exact ⟨_, f1, g1, ⟨_, f2, f3⟩, g2, s5.mono (by omega) (by omega)⟩
theorem bk_zero {w u m r : Nat} {c d : K3 → Rat} (h : bld w u m r = 0) : bkC w u m c d (r + 1) = bkC w u m c d r := by
  funext k
  rw [bkC, h]
  show _ + _ * ((0 : Int) : Rat) = _
  rw [show ((0 : Int) : Rat) = 0 from rfl, Rat.mul_zero, Rat.add_zero]
theorem FD_zero (w : Nat) : FD w (fun _ => 0) = .tup [.int w, .tup []] := by
  unfold FD formD cn
  rw [List.filter_eq_nil_iff.mpr (by simp)]
  rfl
theorem check_plain_at {n a b w : Nat} {c : K3 → Rat} (hw : w ≤ 60) (h : SZ w b a c) : (mxd ((cn w c).map (prt 0)) = 0 → call P C (n + 3) n_check_plain [FD w c] = .ok .non) ∧ (mxd ((cn w c).map (prt 0)) ≠ 0 → call P C (n + 3) n_check_plain [FD w c] = .exc ex_NotPlain) := by
  have ip := is_plain_at (n := n) (w := (w : Int)) (h.fw hw)
  have ip : call P C (n + 2) n_is_plain [FD w c] = .ok (.bl (decide (mxd ((cn w c).map (prt 0)) = 0))) := ip
  refine ⟨fun e => ?_, fun e => ?_⟩
  · rw [decide_eq_true e] at ip
    refine call_run rfl rfl (ρ := [.sh (FD w c)]) rfl ?_
    simp [fd_check_plain, ip]
  · rw [decide_eq_false e] at ip
    refine call_run rfl rfl (ρ := [.sh (FD w c)]) rfl ?_
    simp [fd_check_plain, ip]
theorem s_exp {Φ : Nat → List D → R D} {ρ : Rv.Env} {ss : Ss} {e : Ex} {d : D} (h : ev Φ C ρ false e = .ok d) : exSs Φ C (.cons (.exp e) ss) ρ = exSs Φ C ss ρ := by
  rw [exSs_cons]
  simp [h]
theorem bracket_at {n w u m : Nat} {c d : K3 → Rat} (hc : SZ w 121 161 c) (hd : SZ u 121 161 d) (hw : w + u + 2 * m ≤ 60) (hm : m ≤ 10) (p1 : mxd ((cn w c).map (prt 0)) = 0) (p2 : mxd ((cn u d).map (prt 0)) = 0) :
    call P C (n + 7) n_bracket [FD w c, FD u d, .int (m : Int)] = .ok (FD (w + u + 2 * m) (bkC w u m c d (m + 1))) := by
  have e1 := (check_plain_at (n := n + 3) (by omega) hc).1 p1
  have e2 := (check_plain_at (n := n + 3) (by omega) hd).1 p2
  have l1 := slopes_at (n := n) (m := m) hc (by decide) (by decide) (by omega)
  have l2 := slopes_at (n := n) (m := m) hd (by decide) (by decide) (by omega)
  have hr : rngOk ((m : Int) + 1) := ⟨by omega, by omega⟩
  have k2 : mulOk 2 (m : Int) := mulOk_l (by decide)
  have cw := check_weight_at (n := n + 5) (w := ((w + u + 2 * m : Nat) : Int)) (by omega)
  obtain ⟨W, hW⟩ : ∃ W, W = w + u + 2 * m := ⟨_, rfl⟩
  have ew : (w : Int) + (u : Int) + 2 * (m : Int) = (W : Int) := by omega
  have x0 : idxV (FD w c) (.int 0) = .ok (.int w) := FD_ix0 w c
  have y0 : idxV (FD u d) (.int 0) = .ok (.int u) := FD_ix0 u d
  obtain ⟨ρ', h1, o5, o8, rfl, _⟩ := for_rngI (Φ := call P C (n + 6)) (ρ := [.sh (FD w c), .sh (FD u d), .sh (.int (m : Int)), .sh (.int (W : Int)), .sh (FD W (bkC w u m c d 0)), us none, .sh (.lst (tab (m + 1) (slD w c))), .sh (.lst (tab (m + 1) (slD u d))), us none]) (i := 5) (s := .rng (.cons (.bin .add (.var 2) (.int 1)) .nil)) (body := lb_bracket_0) (lo := 0) (n := m + 1)
    (fun r ρ => ∃ o5 o8, ρ = [.sh (FD w c), .sh (FD u d), .sh (.int (m : Int)), .sh (.int (W : Int)), .sh (FD W (bkC w u m c d r)), us o5, .sh (.lst (tab (m + 1) (slD w c))), .sh (.lst (tab (m + 1) (slD u d))), us o8] ∧ SZ W (283 * r + 1) (5000 * r) (bkC w u m c d r)) (by
      simp [rng1 hr, show ((m : Int) + 1).toNat = m + 1 by omega]) ⟨none, none, rfl, SZ.zero W⟩ (fun r ρ hr ⟨o5, o8, e, hk⟩ => by
      subst e
      rw [hW] at hk
      obtain ⟨x, f1, _, ⟨y, f2, f3⟩, _, s5⟩ := bk_step (n := n + 1) hc hd hw hm (show r ≤ m by omega) hk
      obtain ⟨b1, b2, b3⟩ := bld_lt hw (show r ≤ m by omega)
      have w1 := ways_atZ (n := n + 5) (m := (w : Int) + m - 1) (s := m - r) (by omega) (by omega) (by omega)
      have w2 := ways_atZ (n := n + 5) (m := (u : Int) + m - 1) (s := r) (by omega) (by omega) (by omega)
      rw [show ((m - r : Nat) : Int) = (m : Int) - (r : Int) by omega] at w1
      have i1 : idxV (.lst (tab (m + 1) (slD w c))) (.int (r : Int)) = .ok (slD w c r) := ix_lst (tab_get hr)
      have i2 : idxV (.lst (tab (m + 1) (slD u d))) (.int ((m : Int) - (r : Int))) = .ok (slD u d (m - r)) := by
        rw [show (m : Int) - (r : Int) = ((m - r : Nat) : Int) by omega]
        exact ix_lst (tab_get (by omega))
      have mk : mulOk (wy ((w : Int) + m - 1) (m - r)) (wy ((u : Int) + m - 1) r) := mulOk_r (Nat.lt_trans b2 (by decide))
      have hL : bld w u m r = wy ((w : Int) + m - 1) (m - r) * wy ((u : Int) + m - 1) r * (1 - 2 * ((r : Int) % 2)) := rfl
      rw [← hW] at f3 s5
      generalize wy ((w : Int) + m - 1) (m - r) = A at *
      generalize wy ((u : Int) + m - 1) r = B at *
      obtain ⟨L, hLe⟩ : ∃ L, L = bld w u m r := ⟨_, rfl⟩
      have hz := bk_zero (w := w) (u := u) (m := m) (r := r) (c := c) (d := d)
      rw [← hLe] at f2 hL hz
      generalize tab (m + 1) (slD w c) = LT1 at i1 ⊢
      generalize tab (m + 1) (slD u d) = LT2 at i2 ⊢
      generalize bkC w u m c d r = k0 at *
      generalize bkC w u m c d (r + 1) = k1 at *
      refine ⟨[.sh (FD w c), .sh (FD u d), .sh (.int (m : Int)), .sh (.int (W : Int)), .sh (FD W k0), .sh (.int (0 + (r : Int))), .sh (.lst LT1), .sh (.lst LT2), us o8], [.sh (FD w c), .sh (FD u d), .sh (.int (m : Int)), .sh (.int (W : Int)), .sh (FD W k1), .sh (.int (r : Int)), .sh (.lst LT1), .sh (.lst LT2), .sh (.int L)], by simp only [setT_var]; exact stE_nl (by simp), .inl ?_, some _, some _, rfl, s5⟩
      rw [Int.zero_add]
      have main : exSs (call P C (n + 6)) C (.cons (.ife (.cmp .ne (.var 8) (.int 0)) (.cons (.asg 4 (.call n_form_sum (.cons (.var 4) (.cons (.call n_form_times (.cons (.call n_form_product (.cons (.idx (.var 6) (.var 5)) (.cons (.idx (.var 7) (.bin .sub (.var 2) (.var 5))) .nil))) (.cons (.tup (.cons (.var 8) (.cons (.int 1) .nil))) .nil))) .nil))) false)
  .nil) .nil) .nil) [.sh (FD w c), .sh (FD u d), .sh (.int (m : Int)), .sh (.int (W : Int)), .sh (FD W k0), .sh (.int (r : Int)), .sh (.lst LT1), .sh (.lst LT2), .sh (.int L)] = .nx [.sh (FD w c), .sh (FD u d), .sh (.int (m : Int)), .sh (.int (W : Int)), .sh (FD W k1), .sh (.int (r : Int)), .sh (.lst LT1), .sh (.lst LT2), .sh (.int L)] := by
        by_cases z : L = 0
        · rw [s_ifF0 (by simp [z]), exSs_nil, hz z]
        · rw [s_ifT (by simp [z])]
          rw [s_asg (d := FD W k1) (by simp [LL, i1, i2, f1, int_fr, f2, f3]) (by simp)]
          simp only [List.set_cons_succ, List.set_cons_zero, exSs_nil]
      unfold lb_bracket_0
      rw [s_asg (d := .int (A * B)) (by simp [x0, y0, w1, w2, bin_mul mk]) (by simp)]
      simp only [List.set_cons_succ, List.set_cons_zero]
      rcases (show (r : Int) % 2 = 1 ∨ (r : Int) % 2 = 0 by omega) with q | q
      · have eL : -(A * B) = L := by rw [hL, q]; show _ = A * B * -1; rw [Int.mul_neg, Int.mul_one]
        rw [s_ifT (by simp [bin_mod, Int.fmod_eq_emod_of_nonneg, q])]
        rw [s_asg (d := .int L) (by simp [eL]) (by simp)]
        simp only [List.set_cons_succ, List.set_cons_zero, exSs_nil]
        exact main
      · have eL : A * B = L := by rw [hL, q]; show _ = A * B * 1; rw [Int.mul_one]
        rw [s_ifF0 (by simp [bin_mod, Int.fmod_eq_emod_of_nonneg, q]), eL]
        exact main)
  refine call_run rfl rfl (ρ := [.sh (FD w c), .sh (FD u d), .sh (.int (m : Int)), .un, .un, .un, .un, .un, .un]) rfl ?_
  unfold fd_bracket
  dsimp only
  rw [s_exp (d := .non) (by simp [e1]), s_exp (d := .non) (by simp [e2])]
  rw [s_asg (d := .int (W : Int)) (by simp [x0, y0, bin_mul k2, ew]) (by rfl)]
  simp only [List.set_cons_succ, List.set_cons_zero]
  rw [← hW] at cw
  rw [s_exp (d := .non) (by simp [cw])]
  rw [s_par (x := .lst (tab (m + 1) (slD w c))) (y := .lst (tab (m + 1) (slD u d))) (by simp [l1]) (by simp [l2]) (by rfl) (by rfl)]
  simp only [List.set_cons_succ, List.set_cons_zero]
  rw [s_asg (d := FD W (bkC w u m c d 0)) (by rw [bkC, FD_zero]; simp [LL]) (by rfl)]
  simp only [List.set_cons_succ, List.set_cons_zero]
  rw [hW] at h1 ⊢
  refine (congrArg fin (s_run h1)).trans ?_
  rw [s_ret (d := FD (w + u + 2 * m) (bkC w u m c d (m + 1))) (by simp)]
  rfl
theorem l_bracket_at {n w u m : Nat} {c d : K3 → Rat} (hc : SZ w 121 161 c) (hd : SZ u 121 161 d) (hw : w + u + 2 * m ≤ 60) (hm : m ≤ 10) :
    call P C (n + 7) n_l_bracket [FD w c, FD u d, .int (m : Int)] = .ok (FD (w + u + 2 * m) (bkC w u m c d (m + 1))) := by
  have hr0 : rngOk (m : Int) := ⟨by omega, by omega⟩
  have hr : rngOk ((m : Int) + 1) := ⟨by omega, by omega⟩
  have k2 : mulOk 2 (m : Int) := mulOk_l (by decide)
  obtain ⟨W, hW⟩ : ∃ W, W = w + u + 2 * m := ⟨_, rfl⟩
  have ew : (w : Int) + (u : Int) + 2 * (m : Int) = (W : Int) := by omega
  have x0 : idxV (FD w c) (.int 0) = .ok (.int w) := FD_ix0 w c
  have y0 : idxV (FD u d) (.int 0) = .ok (.int u) := FD_ix0 u d
  obtain ⟨ρ0, h0, o3, rfl⟩ := for_rngI (Φ := call P C (n + 6)) (ρ := [.sh (FD w c), .sh (FD u d), .sh (.int (m : Int)), us none, us none, us none, .own (.lst (tab (0 + 1) (slD w c))), .own (.lst (tab (0 + 1) (slD u d))), us none]) (i := 3) (s := .rng (.cons (.var 2) .nil)) (body := lb_l_bracket_0) (lo := 0) (n := m)
    (fun i ρ => ∃ o3, ρ = [.sh (FD w c), .sh (FD u d), .sh (.int (m : Int)), us o3, us none, us none, .own (.lst (tab (i + 1) (slD w c))), .own (.lst (tab (i + 1) (slD u d))), us none]) (by simp [rng1 hr0]) ⟨none, rfl⟩ (fun i ρ hi ⟨o3, e⟩ => by
      subst e
      have ix1 := ix_last (i := i) (F := slD w c)
      have ix2 := ix_last (i := i) (F := slD u d)
      have st1 := l_slope_step (n := n + 1) (i := i) hc (by decide) (by decide) (by omega)
      have st2 := l_slope_step (n := n + 1) (i := i) hd (by decide) (by decide) (by omega)
      have ln1 : (tab (i + 1) (slD w c)).length < LL := by rw [tab_length]; unfold LL; omega
      have ln2 : (tab (i + 1) (slD u d)).length < LL := by rw [tab_length]; unfold LL; omega
      have sc1 : tab (i + 1 + 1) (slD w c) = tab (i + 1) (slD w c) ++ [slD w c (i + 1)] := tab_succ
      have sc2 : tab (i + 1 + 1) (slD u d) = tab (i + 1) (slD u d) ++ [slD u d (i + 1)] := tab_succ
      rw [sc1, sc2]
      generalize tab (i + 1) (slD w c) = F1 at ix1 ln1 ⊢
      generalize tab (i + 1) (slD u d) = F2 at ix2 ln2 ⊢
      refine ⟨[.sh (FD w c), .sh (FD u d), .sh (.int (m : Int)), .sh (.int (0 + (i : Int))), us none, us none, .own (.lst F1), .own (.lst F2), us none], [.sh (FD w c), .sh (FD u d), .sh (.int (m : Int)), .sh (.int (0 + (i : Int))), us none, us none, .own (.lst (F1 ++ [slD w c (i + 1)])), .own (.lst (F2 ++ [slD u d (i + 1)])), us none], by simp only [setT_var]; exact stE_nl (by simp), .inl ?_, some _, rfl⟩
      unfold lb_l_bracket_0
      rw [s_app (l := F1) (d := slD w c (i + 1)) rfl (by simp [ix1, st1]) ln1]
      simp only [List.set_cons_succ, List.set_cons_zero]
      rw [s_app (l := F2) (d := slD u d (i + 1)) rfl (by simp [ix2, st2]) ln2, exSs_nil]; rfl)
  obtain ⟨L1, hL1⟩ : ∃ L1, L1 = tab (m + 1) (slD w c) := ⟨_, rfl⟩
  obtain ⟨L2, hL2⟩ : ∃ L2, L2 = tab (m + 1) (slD u d) := ⟨_, rfl⟩
  rw [← hL1, ← hL2] at h0
  obtain ⟨ρ', h1, o5, o8, rfl, _⟩ := for_rngI (Φ := call P C (n + 6)) (ρ := [.sh (FD w c), .sh (FD u d), .sh (.int (m : Int)), us o3, .sh (FD W (bkC w u m c d 0)), us none, .own (.lst L1), .own (.lst L2), us none]) (i := 5) (s := .rng (.cons (.bin .add (.var 2) (.int 1)) .nil)) (body := lb_l_bracket_1) (lo := 0) (n := m + 1)
    (fun r ρ => ∃ o5 o8, ρ = [.sh (FD w c), .sh (FD u d), .sh (.int (m : Int)), us o3, .sh (FD W (bkC w u m c d r)), us o5, .own (.lst L1), .own (.lst L2), us o8] ∧ SZ W (283 * r + 1) (5000 * r) (bkC w u m c d r)) (by
      simp [rng1 hr, show ((m : Int) + 1).toNat = m + 1 by omega]) ⟨none, none, rfl, SZ.zero W⟩ (fun r ρ hr ⟨o5, o8, e, hk⟩ => by
      subst e
      rw [hW] at hk
      obtain ⟨x, _, f1, _, f3, s5⟩ := bk_step (n := n + 1) hc hd hw hm (show r ≤ m by omega) hk
      obtain ⟨b1, b2, b3⟩ := bld_lt hw (show r ≤ m by omega)
      have w1 := l_ways_atZ (n := n + 5) (m := (w : Int) + m - 1) (s := m - r) (by omega) (by omega) (by omega)
      have w2 := l_ways_atZ (n := n + 5) (m := (u : Int) + m - 1) (s := r) (by omega) (by omega) (by omega)
      rw [show ((m - r : Nat) : Int) = (m : Int) - (r : Int) by omega] at w1
      have i1 : idxV (.lst L1) (.int (r : Int)) = .ok (slD w c r) := by rw [hL1]; exact ix_lst (tab_get hr)
      have i2 : idxV (.lst L2) (.int ((m : Int) - (r : Int))) = .ok (slD u d (m - r)) := by
        rw [show (m : Int) - (r : Int) = ((m - r : Nat) : Int) by omega, hL2]
        exact ix_lst (tab_get (by omega))
      have mk : mulOk (wy ((w : Int) + m - 1) (m - r)) (wy ((u : Int) + m - 1) r) := mulOk_r (Nat.lt_trans b2 (by decide))
      have m2 : mulOk 2 ((r : Int) % 2) := mulOk_l (by decide)
      have m3 : mulOk (wy ((w : Int) + m - 1) (m - r) * wy ((u : Int) + m - 1) r) (1 - 2 * ((r : Int) % 2)) := mulOk_r (by omega)
      have hL : bld w u m r = wy ((w : Int) + m - 1) (m - r) * wy ((u : Int) + m - 1) r * (1 - 2 * ((r : Int) % 2)) := rfl
      rw [← hW] at f3 s5
      generalize wy ((w : Int) + m - 1) (m - r) = A at *
      generalize wy ((u : Int) + m - 1) r = B at *
      obtain ⟨L, hLe⟩ : ∃ L, L = bld w u m r := ⟨_, rfl⟩
      rw [← hLe] at f3 hL
      generalize bkC w u m c d r = k0 at *
      generalize bkC w u m c d (r + 1) = k1 at *
      refine ⟨[.sh (FD w c), .sh (FD u d), .sh (.int (m : Int)), us o3, .sh (FD W k0), .sh (.int (0 + (r : Int))), .own (.lst L1), .own (.lst L2), us o8], [.sh (FD w c), .sh (FD u d), .sh (.int (m : Int)), us o3, .sh (FD W k1), .sh (.int (r : Int)), .own (.lst L1), .own (.lst L2), .sh (.int L)], by simp only [setT_var]; exact stE_nl (by simp), .inl ?_, some _, some _, rfl, s5⟩
      rw [Int.zero_add]
      unfold lb_l_bracket_1
      rw [s_asg (d := .int L) (by simp [x0, y0, w1, w2, bin_mul mk, bin_mul m2, bin_mul m3, bin_mod, Int.fmod_eq_emod_of_nonneg, hL]) (by simp)]
      simp only [List.set_cons_succ, List.set_cons_zero]
      rw [s_asg (d := FD W k1) (by simp [LL, i1, i2, f1, int_fr, f3]) (by simp)]
      simp only [List.set_cons_succ, List.set_cons_zero, exSs_nil])
  refine call_run rfl rfl (ρ := [.sh (FD w c), .sh (FD u d), .sh (.int (m : Int)), .un, .un, .un, .un, .un, .un]) rfl ?_
  unfold fd_l_bracket
  dsimp only
  rw [s_run (ρ' := [.sh (FD w c), .sh (FD u d), .sh (.int (m : Int)), .un, .un, .un, .own (.lst [FD w c]), .own (.lst [FD u d]), .un]) (by simp [exS_parO, LL, mkSl, stE_nl])]
  refine (congrArg fin (s_run h0)).trans ?_
  rw [s_asg (d := FD W (bkC w u m c d 0)) (by rw [bkC, FD_zero]; simp [LL, x0, y0, bin_mul k2, ew]) (by rfl)]
  simp only [List.set_cons_succ, List.set_cons_zero]
  refine (congrArg fin (s_run h1)).trans ?_
  rw [s_ret (d := FD (w + u + 2 * m) (bkC w u m c d (m + 1))) (by simp [hW])]
  rfl
theorem s_expE {Φ : Nat → List D → R D} {ρ : Rv.Env} {ss : Ss} {e : Ex} {k : Nat} (h : ev Φ C ρ false e = .exc k) : exSs Φ C (.cons (.exp e) ss) ρ = .exc k ρ := by
  rw [exSs_cons]
  simp [h]
theorem bracket_no {n w u : Nat} {m : Int} {c d : K3 → Rat} (hc : SZ w 121 161 c) (hd : SZ u 121 161 d) (hw : w ≤ 60) (hu : u ≤ 60) :
    (mxd ((cn w c).map (prt 0)) ≠ 0 → call P C (n + 7) n_bracket [FD w c, FD u d, .int m] = .exc ex_NotPlain) ∧
    (mxd ((cn w c).map (prt 0)) = 0 → mxd ((cn u d).map (prt 0)) ≠ 0 → call P C (n + 7) n_bracket [FD w c, FD u d, .int m] = .exc ex_NotPlain) ∧
    (mxd ((cn w c).map (prt 0)) = 0 → mxd ((cn u d).map (prt 0)) = 0 → 60 < (w : Int) + u + 2 * m → call P C (n + 7) n_bracket [FD w c, FD u d, .int m] = .exc ex_TooHeavy) := by
  have e1 := check_plain_at (n := n + 3) hw hc
  have e2 := check_plain_at (n := n + 3) hu hd
  have x0 : idxV (FD w c) (.int 0) = .ok (.int w) := FD_ix0 w c
  have y0 : idxV (FD u d) (.int 0) = .ok (.int u) := FD_ix0 u d
  have k2 : mulOk 2 m := mulOk_l (by decide)
  refine ⟨fun p => ?_, fun p q => ?_, fun p q nn => ?_⟩ <;> refine call_run rfl rfl (ρ := [.sh (FD w c), .sh (FD u d), .sh (.int m), .un, .un, .un, .un, .un, .un]) rfl ?_ <;> unfold fd_bracket <;> dsimp only
  · rw [s_expE (k := ex_NotPlain) (by simp [e1.2 p])]; rfl
  · rw [s_exp (d := .non) (by simp [e1.1 p]), s_expE (k := ex_NotPlain) (by simp [e2.2 q])]; rfl
  · have c0 : C gl_HEAVIEST = .int 60 := rfl
    have cw : call P C (n + 6) n_check_weight [.int ((w : Int) + u + 2 * m)] = .exc ex_TooHeavy := by
      refine call_run rfl rfl (ρ := [.sh (.int ((w : Int) + u + 2 * m))]) rfl ?_
      simp [fd_check_weight, c0, nn]
    rw [s_exp (d := .non) (by simp [e1.1 p]), s_exp (d := .non) (by simp [e2.1 q])]
    rw [s_asg (d := .int ((w : Int) + u + 2 * m)) (by simp [x0, y0, bin_mul k2]) (by rfl)]
    simp only [List.set_cons_succ, List.set_cons_zero]
    rw [s_expE (k := ex_TooHeavy) (by simp [cw])]; rfl
/-! upright slopes -/
def dlt (q : Rat) : K3 → Rat := fun k => if k = (1, 0, 0) then q else 0
theorem kw2 : kw 2 = [(1, 0, 0)] := by decide +kernel
theorem FD_dlt {q : Rat} (h : q ≠ 0) : FD 2 (dlt q) = .tup [.int 2, .tup [.tup [.int 1, .int 0, .int 0, frD q]]] := by
  unfold FD formD cn
  rw [kw2, List.filter_cons]
  simp [dlt, h]
  rfl
theorem SZ.dlt {w a b : Nat} {q : Rat} (h : Zb b (2 ^ a) q) (hb : 0 < b) {e : Nat} (he : b < 2 ^ e) : SZ w e a (dlt q) := ⟨b, hb, he, fun k _ => by
  unfold Hx.dlt
  split
  · exact h
  · exact Zb.zero b _⟩
theorem ws_mulq (f : K3 → Rat) (q : Rat) (xs : List (K3 × Rat)) : ws f (xs.map fun x => (x.1, x.2 * q)) = ws f xs * q := by
  induction xs with
  | nil => exact (Rat.zero_mul q).symm
  | cons x r ih => rw [List.map_cons, ws, ws, ih]; grind
theorem mulC_q {w u : Nat} (hw : w ≤ 60) (c d : K3 → Rat) (q : Rat) (k : K3) : mulC w u (fun k => c k * q) d k = mulC w u c d k * q := by
  unfold mulC
  rw [lsm_prod_same (xs' := (cn w c).map fun x => (x.1, x.2 * q)) (ys' := cn u d) (fun k => by
    rw [lsm_mulq]
    by_cases h : KW w k
    · rw [lsm_cn hw h, lsm_cn hw h]
    · rw [lsm_cn0 hw h, lsm_cn0 hw h, Rat.zero_mul]) (fun _ => rfl)]
  rw [lsm_ws, lsm_ws, ws_prod, ws_prod, ws_mulq]
def upC (w : Nat) (c : K3 → Rat) : K3 → Rat := fun k => slC w c k + mulC 2 w (dlt 1) c k * rt (-(w : Int)) 12
theorem lowest_at {n w : Nat} (hw : w ≤ 60) : call P C (n + 4) n_lowest [.int (-(w : Int)), .int 12] = .ok (frD (rt (-(w : Int)) 12)) := by
  have e1 : D.tup [.int (-(w : Int)), .int 1] = frD ((-(w : Int) : Int) : Rat) := rfl
  have e2 : D.tup [.int 1, .int 12] = frD (rt 1 12) := rfl
  have z : S2 4 4 (rt 1 12) := ⟨by decide +kernel, by decide +kernel⟩
  have t := times_at2 (n := n) (p := ((-(w : Int) : Int) : Rat)) (q := rt 1 12) (s2_int (k := 10) (by omega)) z (by decide) (by decide) (by decide)
  have e3 : ((-(w : Int) : Int) : Rat) * rt 1 12 = rt (-(w : Int)) 12 := by
    unfold rt
    rw [Rat.divInt_eq_div, Rat.divInt_eq_div, Rat.div_def, Rat.div_def, show ((1 : Int) : Rat) = 1 from rfl, Rat.one_mul]
  rw [e3] at t
  generalize ((-(w : Int) : Int) : Rat) = Pq at e1 t
  refine call_run rfl rfl (ρ := [.sh (.int (-(w : Int))), .sh (.int 12)]) rfl ?_
  simp [fd_lowest, LL, e1, e2, t]
theorem upright_at {n w : Nat} {c : K3 → Rat} (hc : SZ w 121 161 c) (hw : w + 2 ≤ 60) (p : mxd ((cn w c).map (prt 0)) = 0) : call P C (n + 6) n_upright [FD w c] = .ok (FD (w + 2) (upC w c)) := by
  have e1 := (check_plain_at (n := n + 2) (by omega) hc).1 p
  obtain ⟨f1, s1⟩ := slope_cn (n := n) hw hc (by decide) (by decide)
  have sd : SZ 2 1 1 (dlt 1) := SZ.dlt (b := 1) ⟨1, Rat.mul_one 1, by decide⟩ (by decide) (by decide)
  obtain ⟨f2, s2⟩ := form_product_cn (n := n) (w := 2) (w' := w) (by omega) sd hc (by decide) (by decide) (by decide)
  have lo := lowest_at (n := n + 1) (w := w) (by omega)
  have sq : S2 11 4 (rt (-(w : Int)) 12) := (rt_zb (t := -(w : Int)) (b := 12) 1 (by decide) (by decide) (by omega)).s2 (by decide) (by decide) (by decide)
  obtain ⟨f3, s3⟩ := form_times_cn (n := n) (by omega) s2 sq (by decide) (by decide) (by decide)
  rw [show 2 + w = w + 2 by omega] at f2 f3 s3
  obtain ⟨f4, _⟩ := form_sum_cn (n := n) hw s1 s3 (by decide) (by decide) (by decide)
  have c1 : C gl_ONE = frD 1 := rfl
  have fd := FD_dlt (q := 1) (by decide)
  refine call_run rfl rfl (ρ := [.sh (FD w c), .un, .un]) rfl ?_
  unfold fd_upright
  dsimp only
  rw [s_exp (d := .non) (by simp [e1])]
  rw [s_asg (d := FD (w + 2) (slC w c)) (by simp [f1]) (by rfl)]
  simp only [List.set_cons_succ, List.set_cons_zero]
  rw [s_asg (d := FD 2 (dlt 1)) (by rw [fd]; simp [LL, c1]) (by rfl)]
  simp only [List.set_cons_succ, List.set_cons_zero]
  rw [s_ret (d := FD (w + 2) (upC w c)) (by simp [FD_ix0, f2, lo, f3, f4]; rfl)]
  rfl
theorem upright_no {n w : Nat} {c : K3 → Rat} (hc : SZ w 121 161 c) (hw : w ≤ 60) : (mxd ((cn w c).map (prt 0)) ≠ 0 → call P C (n + 6) n_upright [FD w c] = .exc ex_NotPlain) ∧ (mxd ((cn w c).map (prt 0)) = 0 → 60 < w + 2 → call P C (n + 6) n_upright [FD w c] = .exc ex_TooHeavy) := by
  have e1 := check_plain_at (n := n + 2) hw hc
  refine ⟨fun p => ?_, fun p q => ?_⟩ <;> refine call_run rfl rfl (ρ := [.sh (FD w c), .un, .un]) rfl ?_ <;> unfold fd_upright <;> dsimp only
  · rw [s_expE (k := ex_NotPlain) (by simp [e1.2 p])]; rfl
  · have sn := slope_no (n := n + 3) (c := c) q
    rw [s_exp (d := .non) (by simp [e1.1 p]), s_asgE (c := ex_TooHeavy) (by simp [sn])]; rfl
theorem kin_TooHeavy : kinOf (C ex_TooHeavy) = some (kinD "TooHeavy") := rfl
theorem kin_NotPlain : kinOf (C ex_NotPlain) = some (kinD "NotPlain") := rfl
theorem told_ok {w : Nat} {c : K3 → Rat} : eqOk 12 (toldD (FD w c)) = true := by
  have e : ((cn w c).map termD).all (eqOk 9) = true := by
    rw [List.all_map, List.all_eq_true]
    exact fun x _ => rfl
  have e2 : eqOk 10 (.tup ((cn w c).map termD)) = true := e
  have e3 : eqOk 11 (FD w c) = true := by
    show ([D.int w, .tup ((cn w c).map termD)].all (eqOk 10)) = true
    simp only [List.all_cons, List.all_nil, e2, Bool.and_true]
    rfl
  show ([FD w c, .lst []].all (eqOk 11)) = true
  simp only [List.all_cons, List.all_nil, e3, Bool.and_true]
  rfl
theorem isn_FD {w : Nat} {c : K3 → Rat} : cmpV .isn (FD w c) .non = .ok false := rfl
theorem tell_up {n : Nat} {a : D} : (∀ d, call P C n n_upright [a] = .ok d → call P C (n + 1) n_l_told [a, .non, .int 0] = .ok (toldD d)) ∧ (∀ c l, call P C n n_upright [a] = .exc c → kinOf (C c) = some l → call P C (n + 1) n_l_told [a, .non, .int 0] = .ok (refD l)) := by
  have t0 : cmpV .isn .non .non = .ok true := rfl
  refine ⟨fun d e => ?_, fun c l e hl => ?_⟩ <;> refine call_run rfl rfl (ρ := [.sh a, .sh .non, .sh (.int 0), .un, .un, .un]) rfl ?_ <;> unfold fd_l_told
  · rw [s_asg (d := .non) (by simp) (by rfl), s_asg (d := .lst []) (by simp [LL]) (by rfl)]
    simp only [List.set_cons_succ, List.set_cons_zero]
    rw [s_tryN (ρ' := [.sh a, .sh .non, .sh (.int 0), .sh d, .sh (.lst []), .un]) (by
      rw [s_ifT (by simp [t0]), s_asg (d := d) (by simp [e]) (by rfl), exSs_nil]; rfl)]
    rw [s_ret (d := toldD d) (by simp [LL, toldD])]
    rfl
  · rw [s_asg (d := .non) (by simp) (by rfl), s_asg (d := .lst []) (by simp [LL]) (by rfl)]
    simp only [List.set_cons_succ, List.set_cons_zero]
    rw [s_tryE (c := c) (ρ' := [.sh a, .sh .non, .sh (.int 0), .sh .non, .sh (.lst []), .un]) (by
      rw [s_ifT (by simp [t0]), s_asgE (c := c) (by simp [e])]) hl (by rfl) (by rfl)]
    rw [s_ret (d := refD l) (by simp [LL, refD])]
    rfl
theorem tell_br {n : Nat} {a b : D} {m : Int} (hb : cmpV .isn b .non = .ok false) : (∀ d, call P C n n_bracket [a, b, .int m] = .ok d → call P C (n + 1) n_l_told [a, b, .int m] = .ok (toldD d)) ∧ (∀ c l, call P C n n_bracket [a, b, .int m] = .exc c → kinOf (C c) = some l → call P C (n + 1) n_l_told [a, b, .int m] = .ok (refD l)) := by
  refine ⟨fun d e => ?_, fun c l e hl => ?_⟩ <;> refine call_run rfl rfl (ρ := [.sh a, .sh b, .sh (.int m), .un, .un, .un]) rfl ?_ <;> unfold fd_l_told
  · rw [s_asg (d := .non) (by simp) (by rfl), s_asg (d := .lst []) (by simp [LL]) (by rfl)]
    simp only [List.set_cons_succ, List.set_cons_zero]
    rw [s_tryN (ρ' := [.sh a, .sh b, .sh (.int m), .sh d, .sh (.lst []), .un]) (by
      rw [s_ifF (by simp [hb])]
      by_cases z : m = 1
      · rw [s_ifT (by simp [z])]
        rw [z] at e
        rw [s_asg (d := d) (by simp [e]) (by rfl)]
        simp only [List.set_cons_succ, List.set_cons_zero, exSs_nil]
      · rw [s_ifF (by simp [z]), s_asg (d := d) (by simp [e]) (by rfl)]
        simp only [List.set_cons_succ, List.set_cons_zero, exSs_nil])]
    rw [s_ret (d := toldD d) (by simp [LL, toldD])]
    rfl
  · rw [s_asg (d := .non) (by simp) (by rfl), s_asg (d := .lst []) (by simp [LL]) (by rfl)]
    simp only [List.set_cons_succ, List.set_cons_zero]
    rw [s_tryE (c := c) (ρ' := [.sh a, .sh b, .sh (.int m), .sh .non, .sh (.lst []), .un]) (by
      rw [s_ifF (by simp [hb])]
      by_cases z : m = 1
      · rw [s_ifT (by simp [z])]
        rw [z] at e
        rw [s_asgE (c := c) (by simp [e])]
      · rw [s_ifF (by simp [z]), s_asgE (c := c) (by simp [e])]) hl (by rfl) (by rfl)]
    rw [s_ret (d := refD l) (by simp [LL, refD])]
    rfl
theorem dlt_q (q : Rat) : dlt q = fun k => dlt 1 k * q := by
  funext k
  unfold dlt
  split
  · rw [Rat.one_mul]
  · rw [Rat.zero_mul]
theorem rt12_ne {w : Nat} (h : 0 < w) : rt (-(w : Int)) 12 ≠ 0 := fun z => by
  unfold rt at z
  rw [Rat.divInt_eq_div] at z
  have z2 := congrArg (fun q => q * ((12 : Int) : Rat)) z
  rw [Rat.div_mul_cancel (by decide), Rat.zero_mul] at z2
  have := Rat.intCast_eq_zero_iff.mp z2
  omega
theorem upl {n w : Nat} {c : K3 → Rat} (hc : SZ w 121 161 c) (hw : w + 2 ≤ 60) :
    ∃ x, call P C (n + 5) n_l_form_product [.tup [.int 2, .tup [.tup [.int 1, .int 0, .int 0, frD (rt (if 0 < w then -(w : Int) else 12) 12)]]], FD w c] = .ok x ∧
      call P C (n + 5) n_l_form_sum [FD (w + 2) (slC w c), if 0 < w then x else .tup [.int 2, .tup []], frD 1] = .ok (FD (w + 2) (upC w c)) := by
  have s1 := (slope_cn (n := n) hw hc (by decide) (by decide)).2
  have o1 : S2 1 1 1 := ⟨by decide, by decide⟩
  by_cases h : 0 < w
  · rw [if_pos h, ← FD_dlt (rt12_ne h)]
    have zb := rt_zb (t := -(w : Int)) (b := 12) 1 (by decide) (by decide) (by omega)
    have sd : SZ 2 4 10 (dlt (rt (-(w : Int)) 12)) := SZ.dlt zb (by decide) (by decide)
    have s2 := (form_product_cn (n := n) (w := 2) (w' := w) (by omega) sd hc (by decide) (by decide) (by decide)).2
    have f2 := l_form_product_cn (n := n) (w := 2) (w' := w) (by omega) sd hc (by decide) (by decide) (by decide)
    rw [show 2 + w = w + 2 by omega] at f2 s2
    refine ⟨_, f2, ?_⟩
    rw [if_pos h]
    have f3 := l_form_sum_cn (n := n) hw s1 s2 o1 (by decide) (by decide) (by decide) (by decide)
    rw [f3]
    congr 1
    refine FD_congr fun k _ => ?_
    unfold upC
    rw [Rat.mul_one, dlt_q, mulC_q (by decide)]
  · have w0 : w = 0 := by omega
    subst w0
    rw [if_neg (by decide)]
    have sd : SZ 2 1 1 (dlt 1) := SZ.dlt (b := 1) ⟨1, Rat.mul_one 1, by decide⟩ (by decide) (by decide)
    have e1 : rt 12 12 = 1 := by decide +kernel
    rw [e1, ← FD_dlt (by decide)]
    have f2 := l_form_product_cn (n := n) (w := 2) (w' := 0) (by decide) sd hc (by decide) (by decide) (by decide)
    refine ⟨_, f2, ?_⟩
    have ez : D.tup [.int 2, .tup []] = FD 2 fun _ => 0 := (FD_zero 2).symm
    rw [if_neg (by decide), ez]
    have f3 := l_form_sum_cn (n := n) hw s1 (SZ.zero 2) o1 (by decide) (by decide) (by decide) (by decide)
    rw [f3]
    congr 1
    refine FD_congr fun k _ => ?_
    unfold upC
    have er : rt (-((0 : Nat) : Int)) 12 = 0 := by decide +kernel
    rw [er, Rat.zero_mul, Rat.mul_zero]
theorem intsOf_map (l : List Int) : intsOf (l.map D.int) = some l := by
  induction l with
  | nil => rfl
  | cons x r ih => simp [intsOf, ih]
theorem mx_two {a d a' d' : Nat} {ts ts' : List (K3 × Rat)} (h : FW a d ts) (h' : FW a' d' ts') : (mostI (mxd (ts.map (prt 0))) (ts'.map (prt 0)) = 0) ↔ (mxd (ts.map (prt 0)) = 0 ∧ mxd (ts'.map (prt 0)) = 0) := by
  have p := prt_ok h (w := 0) (by decide)
  have g := (mostI_mem (ts'.map (prt 0)) (mxd (ts.map (prt 0)))).1 _ List.mem_cons_self
  constructor
  · intro z
    have z1 : mxd (ts.map (prt 0)) = 0 := by omega
    rw [z1, mx_depth h'] at z
    exact ⟨z1, z⟩
  · rintro ⟨z1, z2⟩
    rw [z1, mx_depth h', z2]
theorem cps_row {Φ : Nat → List D → R D} {ρ : Rv.Env} {i w : Nat} {c : K3 → Rat} {b : Bool} (hw : w ≤ 60) (h0 : ρ[i]? = some (.sh (FD w c))) (h9 : (ρ[9]?).map nlB = some true) :
    ev Φ C ρ b (.comp (.idx (.var 9) (.int 0)) (.var 9) (.it (.idx (.var i) (.int 1))) .no [9]) = .ok (.lst ((cn w c).map fun x => .int (prt 0 x))) := by
  have ln := cn_len hw c
  have l9 : 9 < ρ.length := by
    rcases Nat.lt_or_ge 9 ρ.length with c | c
    · exact c
    · rw [List.getElem?_eq_none c] at h9
      cases h9
  refine comp_map termD _ (by simp [h0, FD_ix1]) (by unfold LL; omega) fun x hx => ⟨ρ.set 9 (.sh (termD x)), ?_, ?_⟩
  · have e : (wipeE ρ [9]).length = ρ.length := by simp [wipeE]
    rw [setT_var]
    have q : ((wipeE ρ [9])[9]?).map nlB = some true := by
      simp [wipeE, l9]
    rw [stE_nl q]
    simp [wipeE]
  · have t := term_ix 0 (by decide) x
    have t : idxV (termD x) (.int 0) = .ok (.int (prt 0 x)) := t
    simp [l9, t]
theorem mx_ev {i : Int} {ts : List (K3 × Rat)} : bfn .max1 [.lst (.int i :: ts.map fun x => .int (prt 0 x))] = .ok (.int (mostI i (ts.map (prt 0)))) := by
  have e : (.int i :: ts.map fun x => D.int (prt 0 x)) = (i :: ts.map (prt 0)).map D.int := by
    rw [List.map_cons, List.map_map]; rfl
  rw [e]
  simp only [bfn, maxL, intsOf_map]
theorem np_ne : D.tup [.non, .lst (kinD "NotPlain")] = refD (kinD "NotPlain") := rfl
theorem turn_law {n : Nat} (s : D) (cell : Int) (r : Rv.Env) (hr : r.length = 8) (hn : ∀ x ∈ r, nlB x = true) :
    ∃ r', r'.length = 8 ∧ (∀ x ∈ r', nlB x = true) ∧ exSs (call P C (n + 40)) C lb_law_0 (.sh s :: .sh (.int cell) :: r) = .nx (.sh s :: .sh (.int cell) :: r') := by
  match r, hr with
  | [x2, x3, x4, x5, x6, x7, x8, x9], _ =>
  simp only [List.mem_cons, List.not_mem_nil, or_false, forall_eq_or_imp, forall_eq] at hn
  obtain ⟨h2, h3, h4, h5, h6, h7, h8, h9⟩ := hn
  obtain ⟨l, hl, ed⟩ := draws_at (n := n + 39) cell 120 1000 (by decide) (by decide) (by decide)
  have ed : call P C (n + 40) n_l_draws [.int cell, .int 120, .int 1000] = .ok (lsI l) := ed
  have p0 := pickE hl 0 0 rfl (by decide)
  have p1 := pickE hl 1 1 rfl (by decide)
  have p2 := pickE hl 2 2 rfl (by decide)
  have p3 := pickE hl 3 3 rfl (by decide)
  have p4 := pickE hl 4 4 rfl (by decide)
  have p5 := pickE hl 5 5 rfl (by decide)
  have g0 := dr_at hl (show 0 < 120 by decide)
  have g1 := dr_at hl (show 1 < 120 by decide)
  have g2 := dr_at hl (show 2 < 120 by decide)
  have g3 := dr_at hl (show 3 < 120 by decide)
  generalize l.getD 0 0 = v0 at *
  generalize l.getD 1 0 = v1 at *
  generalize l.getD 2 0 = v2 at *
  generalize l.getD 3 0 = v3 at *
  generalize l.getD 4 0 = v4 at *
  generalize l.getD 5 0 = v5 at *
  obtain ⟨w, w60, wev, ew⟩ := l_weight_at (n := n + 39) (v := v0) (by omega)
  have ew : call P C (n + 40) n_l_weight [.int v0] = .ok (.int (w : Int)) := ew
  obtain ⟨u, u60, uev, eu⟩ := l_weight_at (n := n + 39) (v := v2) (by omega)
  have eu : call P C (n + 40) n_l_weight [.int v2] = .ok (.int (u : Int)) := eu
  obtain ⟨e1, he1⟩ : ∃ m : Nat, v1 % 9 / 8 = (m : Int) := ⟨(v1 % 9 / 8).toNat, by omega⟩
  obtain ⟨e3, he3⟩ : ∃ m : Nat, v3 % 9 / 8 = (m : Int) := ⟨(v3 % 9 / 8).toNat, by omega⟩
  obtain ⟨b, hb, hb2⟩ : ∃ b : Int, idxV (.lst [.int 3, .int 11]) (.int (v5 % 2)) = .ok (.int b) ∧ (b = 3 ∨ b = 11) := by
    rcases Int.emod_two_eq v5 with c | c
    · exact ⟨3, by rw [c]; rfl, .inl rfl⟩
    · exact ⟨11, by rw [c]; rfl, .inr rfl⟩
  have hb0 : b ≠ 0 := by omega
  have hbn : 0 ≤ b := by omega
  obtain ⟨m, hm, m10⟩ : ∃ m : Nat, v4 % b = (m : Int) ∧ m ≤ 10 := by
    have h1 := Int.emod_nonneg v4 hb0
    have h2 := Int.emod_lt_of_pos v4 (show 0 < b by omega)
    exact ⟨(v4 % b).toNat, by omega, by omega⟩
  obtain ⟨c, hc, _, ec⟩ := l_a_form_cn (n := n + 35) (w := w) (m := e1) (dr_drop (k := 10) hl) (by decide) w60
  have ec : call P C (n + 40) n_l_a_form [lsI (l.drop 10), .int (w : Int), .int (e1 : Int)] = .ok (FD w c) := ec
  obtain ⟨d, hd, _, edd⟩ := l_a_form_cn (n := n + 35) (w := u) (m := e3) (dr_drop (k := 60) hl) (by decide) u60
  have edd : call P C (n + 40) n_l_a_form [lsI (l.drop 60), .int (u : Int), .int (e3 : Int)] = .ok (FD u d) := edd
  have sl10 := slc_lsI (l := l) (k := 10) (by decide)
  have sl60 := slc_lsI (l := l) (k := 60) (by decide)
  have dv8 : divOk (8 : Int) := divOk_s (by decide) (by decide)
  have fw1 := hc.fw w60
  have fw2 := hd.fw u60
  have mx1 := mx_depth fw1
  have mx2 := mx_two fw1 fw2
  obtain ⟨M1, hM1⟩ : ∃ M1, M1 = mxd ((cn w c).map (prt 0)) := ⟨_, rfl⟩
  obtain ⟨M2, hM2⟩ : ∃ M2, M2 = mxd ((cn u d).map (prt 0)) := ⟨_, rfl⟩
  have x0 : idxV (FD w c) (.int 0) = .ok (.int w) := FD_ix0 w c
  have y0 : idxV (FD u d) (.int 0) = .ok (.int u) := FD_ix0 u d
  have ln1 := cn_len w60 c
  have ln2 := cn_len u60 d
  -- the first due
  obtain ⟨d1, o8, ho8, t1, ok1, step1⟩ : ∃ (d1 : D) (o8 : Sl), nlB o8 = true ∧ call P C (n + 40) n_l_told [FD w c, .non, .int 0] = .ok d1 ∧ eqOk 12 d1 = true ∧ ∀ rest : Ss, exSs (call P C (n + 40)) C (.cons (.ife (.cmp .eq (.var 6) (.int 0)) (.cons (.asg 7 (.tup (.cons .non (.cons (.lst (.cons (.str (Str.ofString "TooHeavy")) (.cons (.str (Str.ofString "ValueError")) .nil))) .nil))) false)
  (.cons (.ife (.cmp .lt (.idx (.var 3) (.int 0)) (.int 60)) (.cons (.asg 8 (.call n_l_form_product (.cons (.tup (.cons (.int 2) (.cons (.tup (.cons (.tup (.cons (.int 1) (.cons (.int 0) (.cons (.int 0) (.cons (.call n_l_frac (.cons (.ite (.cmp .gt (.idx (.var 3) (.int 0)) (.int 0)) (.neg (.idx (.var 3) (.int 0))) (.int 12)) (.cons (.int 12) .nil))) .nil))))) .nil)) .nil))) (.cons (.var 3) .nil))) false)
  (.cons (.asg 8 (.ite (.cmp .gt (.idx (.var 3) (.int 0)) (.int 0)) (.var 8) (.tup (.cons (.int 2) (.cons (.tup .nil) .nil)))) false)
  (.cons (.asg 7 (.tup (.cons (.call n_l_form_sum (.cons (.call n_l_slope (.cons (.var 3) .nil)) (.cons (.var 8) (.cons (.tup (.cons (.int 1) (.cons (.int 1) .nil))) .nil)))) (.cons (.lst .nil) .nil))) false)
  .nil))) .nil)
  .nil)) .nil) rest) [.sh s, .sh (.int cell), .sh (lsI l), .sh (FD w c), .sh (FD u d), .sh (.int (m : Int)), .sh (.int M1), .sh (refD (kinD "NotPlain")), x8, x9] = exSs (call P C (n + 40)) C rest [.sh s, .sh (.int cell), .sh (lsI l), .sh (FD w c), .sh (FD u d), .sh (.int (m : Int)), .sh (.int M1), .sh d1, o8, x9] := by
    by_cases z : M1 = 0
    · by_cases hw : w + 2 ≤ 60
      · obtain ⟨x, f1, f2⟩ := upl (n := n + 35) hc hw
        have f1 : call P C (n + 40) n_l_form_product [.tup [.int 2, .tup [.tup [.int 1, .int 0, .int 0, frD (rt (if 0 < w then -(w : Int) else 12) 12)]]], FD w c] = .ok x := f1
        have f2 : call P C (n + 40) n_l_form_sum [FD (w + 2) (slC w c), if 0 < w then x else .tup [.int 2, .tup []], frD 1] = .ok (FD (w + 2) (upC w c)) := f2
        have fr := l_frac_at (n := n + 38) (t := if 0 < w then -(w : Int) else 12) (b := 12) (by decide) (le9000 (k := 10) (by decide) (by decide))
        have fr : call P C (n + 40) n_l_frac [.int (if 0 < w then -(w : Int) else 12), .int 12] = .ok (frD (rt (if 0 < w then -(w : Int) else 12) 12)) := fr
        have ls := l_slope_cn (n := n + 35) hw hc (by decide) (by decide)
        have ls : call P C (n + 40) n_l_slope [FD w c] = .ok (FD (w + 2) (slC w c)) := ls
        have fo : D.tup [.int 1, .int 1] = frD 1 := rfl
        refine ⟨_, .sh (if 0 < w then x else .tup [.int 2, .tup []]), rfl, (tell_up (n := n + 39)).1 _ (upright_at (n := n + 33) hc hw (by rw [← hM1, z])), told_ok, fun rest => ?_⟩
        rw [s_ifT (by simp [z])]
        rw [s_asg (d := refD (kinD "TooHeavy")) (by simp [LL, refD, kinD]) (by simp)]
        simp only [List.set_cons_succ, List.set_cons_zero]
        have w6 : (w : Int) < 60 := by omega
        rw [s_ifT (by simp [x0, w6])]
        rw [s_asg (d := x) (by
          by_cases h : 0 < w
          · have h' : (0 : Int) < (w : Int) := by omega
            rw [if_pos h] at fr f1
            simp [x0, h, h', fr, LL, f1]
          · have h' : ¬ (0 : Int) < (w : Int) := by omega
            rw [if_neg h] at fr f1
            simp [x0, h, h', fr, LL, f1]) (by simp [h8])]
        simp only [List.set_cons_succ, List.set_cons_zero]
        rw [s_asg (d := if 0 < w then x else .tup [.int 2, .tup []]) (by
          by_cases h : 0 < w
          · have h' : (0 : Int) < (w : Int) := by omega
            simp [x0, h, h']
          · have h' : ¬ (0 : Int) < (w : Int) := by omega
            simp [x0, h, h', LL]) (by simp)]
        simp only [List.set_cons_succ, List.set_cons_zero]
        generalize (if 0 < w then x else .tup [.int 2, .tup []]) = X at f2 ⊢
        rw [s_asg (d := toldD (FD (w + 2) (upC w c))) (by simp [ls, LL, fo, f2, toldD]) (by simp)]
        simp only [List.set_cons_succ, List.set_cons_zero, exSs_nil]
      · refine ⟨_, x8, h8, (tell_up (n := n + 39)).2 _ _ ((upright_no (n := n + 33) hc w60).2 (by rw [← hM1, z]) (by omega)) kin_TooHeavy, by decide +kernel, fun rest => ?_⟩
        rw [s_ifT (by simp [z])]
        rw [s_asg (d := refD (kinD "TooHeavy")) (by simp [LL, refD, kinD]) (by simp)]
        simp only [List.set_cons_succ, List.set_cons_zero]
        have w6 : ¬ (w : Int) < 60 := by omega
        rw [s_ifF0 (by simp [x0, w6]), exSs_nil]
    · refine ⟨_, x8, h8, (tell_up (n := n + 39)).2 _ _ ((upright_no (n := n + 33) hc w60).1 (by rw [← hM1]; exact z)) kin_NotPlain, by decide +kernel, fun rest => ?_⟩
      rw [s_ifF0 (by simp [z])]
  -- the second due
  have ewu : (w : Int) + (u : Int) + 2 * (m : Int) = ((w + u + 2 * m : Nat) : Int) := by omega
  have k2 : mulOk 2 (m : Int) := mulOk_l (by decide)
  obtain ⟨V, hV⟩ : ∃ V, V = mostI M1 ((cn u d).map (prt 0)) := ⟨_, rfl⟩
  have cq : ∀ (x7 : Sl), nlB x7 = true → ev (call P C (n + 40)) C [.sh s, .sh (.int cell), .sh (lsI l), .sh (FD w c), .sh (FD u d), .sh (.int (m : Int)), .sh (.int M1), x7, o8, x9] true (.bfn .max1 (.cons (.bin .add (.lst (.cons (.var 6) .nil)) cp_law_1) .nil)) = .ok (.int V) := fun x7 h7 => by
    have cp := cps_row (Φ := call P C (n + 40)) (ρ := [.sh s, .sh (.int cell), .sh (lsI l), .sh (FD w c), .sh (FD u d), .sh (.int (m : Int)), .sh (.int M1), x7, o8, x9]) (i := 4) (b := true) u60 rfl (by simp [h9])
    have cp : ev (call P C (n + 40)) C [.sh s, .sh (.int cell), .sh (lsI l), .sh (FD w c), .sh (FD u d), .sh (.int (m : Int)), .sh (.int M1), x7, o8, x9] true cp_law_1 = .ok (.lst ((cn u d).map fun x => .int (prt 0 x))) := cp
    have ct : Rv.bin .add (.lst [.int M1]) (.lst ((cn u d).map fun x => .int (prt 0 x))) = .ok (.lst (.int M1 :: (cn u d).map fun x => .int (prt 0 x))) := bin_cat (by simp [LL]; omega)
    have mm := mx_ev (i := M1) (ts := cn u d)
    rw [← hV] at mm
    generalize (cn u d).map (fun x => D.int (prt 0 x)) = LX at cp ct mm
    simp [cp, LL, ct, mm]
  obtain ⟨d2, t2, ok2, step2⟩ : ∃ d2 : D, call P C (n + 40) n_l_told [FD w c, FD u d, .int (m : Int)] = .ok d2 ∧ eqOk 12 d2 = true ∧ ∀ rest : Ss, exSs (call P C (n + 40)) C (.cons (.ife (.cmp .eq (.bfn .max1 (.cons (.bin .add (.lst (.cons (.var 6) .nil)) cp_law_1) .nil)) (.int 0)) (.cons (.asg 7 (.tup (.cons .non (.cons (.lst (.cons (.str (Str.ofString "TooHeavy")) (.cons (.str (Str.ofString "ValueError")) .nil))) .nil))) false)
  (.cons (.ife (.cmp .le (.bin .add (.bin .add (.idx (.var 3) (.int 0)) (.idx (.var 4) (.int 0))) (.bin .mul (.int 2) (.var 5))) (.int 60)) (.cons (.asg 7 (.tup (.cons (.call n_l_bracket (.cons (.var 3) (.cons (.var 4) (.cons (.var 5) .nil)))) (.cons (.lst .nil) .nil))) false)
  .nil) .nil)
  .nil)) .nil) rest) [.sh s, .sh (.int cell), .sh (lsI l), .sh (FD w c), .sh (FD u d), .sh (.int (m : Int)), .sh (.int M1), .sh (refD (kinD "NotPlain")), o8, x9] = exSs (call P C (n + 40)) C rest [.sh s, .sh (.int cell), .sh (lsI l), .sh (FD w c), .sh (FD u d), .sh (.int (m : Int)), .sh (.int M1), .sh d2, o8, x9] := by
    have cT : ∀ z : Bool, decide (V = 0) = z → ev (call P C (n + 40)) C [.sh s, .sh (.int cell), .sh (lsI l), .sh (FD w c), .sh (FD u d), .sh (.int (m : Int)), .sh (.int M1), .sh (refD (kinD "NotPlain")), o8, x9] false (.cmp .eq (.bfn .max1 (.cons (.bin .add (.lst (.cons (.var 6) .nil)) cp_law_1) .nil)) (.int 0)) = .ok (.bl z) := fun z hz => ev_cmpB (x := .int V) (y := .int 0) (cq _ rfl) (by simp) (by rw [eq_int, hz])
    obtain ⟨b1, b2, b3⟩ := bracket_no (n := n + 32) (m := (m : Int)) hc hd w60 u60
    rw [← hM1, ← hM2] at b3 b2
    rw [← hM1] at b1
    rw [← hM1, ← hV, ← hM2] at mx2
    have isn := isn_FD (w := u) (c := d)
    by_cases z : V = 0
    · obtain ⟨z1, z2⟩ := mx2.mp z
      by_cases hW : w + u + 2 * m ≤ 60
      · have br := bracket_at (n := n + 32) hc hd hW m10 (by rw [← hM1, z1]) (by rw [← hM2, z2])
        have lb := l_bracket_at (n := n + 33) hc hd hW m10
        have lb : call P C (n + 40) n_l_bracket [FD w c, FD u d, .int (m : Int)] = .ok (FD (w + u + 2 * m) (bkC w u m c d (m + 1))) := lb
        refine ⟨_, (tell_br (n := n + 39) isn).1 _ br, told_ok, fun rest => ?_⟩
        rw [s_ifT (cT true (decide_eq_true z))]
        rw [s_asg (d := refD (kinD "TooHeavy")) (by simp [LL, refD, kinD]) (by simp)]
        simp only [List.set_cons_succ, List.set_cons_zero]
        have w6 : (w : Int) + (u : Int) + 2 * (m : Int) ≤ 60 := by omega
        rw [s_ifT (by simp [x0, y0, bin_mul k2, w6])]
        rw [s_asg (d := toldD (FD (w + u + 2 * m) (bkC w u m c d (m + 1)))) (by simp [lb, LL, toldD]) (by simp)]
        simp only [List.set_cons_succ, List.set_cons_zero, exSs_nil]
      · refine ⟨_, (tell_br (n := n + 39) isn).2 _ _ (b3 z1 z2 (by omega)) kin_TooHeavy, by decide +kernel, fun rest => ?_⟩
        rw [s_ifT (cT true (decide_eq_true z))]
        rw [s_asg (d := refD (kinD "TooHeavy")) (by simp [LL, refD, kinD]) (by simp)]
        simp only [List.set_cons_succ, List.set_cons_zero]
        have w6 : ¬ (w : Int) + (u : Int) + 2 * (m : Int) ≤ 60 := by omega
        rw [s_ifF0 (by simp [x0, y0, bin_mul k2, w6]), exSs_nil]
    · have e : call P C (n + 39) n_bracket [FD w c, FD u d, .int (m : Int)] = .exc ex_NotPlain := by
        by_cases z1 : M1 = 0
        · exact b2 z1 fun z2 => z (mx2.mpr ⟨z1, z2⟩)
        · exact b1 z1
      refine ⟨_, (tell_br (n := n + 39) isn).2 _ _ e kin_NotPlain, by decide +kernel, fun rest => ?_⟩
      rw [s_ifF0 (cT false (decide_eq_false z))]
  refine ⟨[.sh (lsI l), .sh (FD w c), .sh (FD u d), .sh (.int (m : Int)), .sh (.int M1), .sh d2, o8, x9], rfl, by simp [ho8, h9], ?_⟩
  unfold lb_law_0
  rw [s_asg (d := lsI l) (by simp [ed]) (by simp [h2])]
  simp only [List.set_cons_succ, List.set_cons_zero]
  rw [s_asg (d := FD w c) (by simp [sl10, p0, ew, p1, bin_mod, Int.fmod_eq_emod_of_nonneg, bin_fdv dv8, Int.fdiv_eq_ediv_of_nonneg, he1, ec]) (by simp [h3])]
  simp only [List.set_cons_succ, List.set_cons_zero]
  rw [s_asg (d := FD u d) (by simp [sl60, p2, eu, p3, bin_mod, Int.fmod_eq_emod_of_nonneg, bin_fdv dv8, Int.fdiv_eq_ediv_of_nonneg, he3, edd]) (by simp [h4])]
  simp only [List.set_cons_succ, List.set_cons_zero]
  rw [s_asg (d := .int (m : Int)) (by simp [p4, p5, LL, hb, bin_mod hb0, bin_mod, Int.fmod_eq_emod_of_nonneg _ hbn, Int.fmod_eq_emod_of_nonneg, hm]) (by simp [h5])]
  simp only [List.set_cons_succ, List.set_cons_zero]
  rw [s_asg (d := .int M1) (by
    have cp := cps_row (Φ := call P C (n + 40)) (ρ := [.sh s, .sh (.int cell), .sh (lsI l), .sh (FD w c), .sh (FD u d), .sh (.int (m : Int)), x6, x7, x8, x9]) (i := 3) (b := true) w60 rfl (by simp [h9])
    have cp : ∀ z, ev (call P C (n + 40)) C [.sh s, .sh (.int cell), .sh (lsI l), .sh (FD w c), .sh (FD u d), .sh (.int (m : Int)), x6, x7, x8, x9] z cp_law_0 = .ok (.lst ((cn w c).map fun x => .int (prt 0 x))) := fun z => cps_row (Φ := call P C (n + 40)) (ρ := [.sh s, .sh (.int cell), .sh (lsI l), .sh (FD w c), .sh (FD u d), .sh (.int (m : Int)), x6, x7, x8, x9]) (i := 3) (b := z) w60 rfl (by simp [h9])
    have ct : Rv.bin .add (.lst [.int 0]) (.lst ((cn w c).map fun x => .int (prt 0 x))) = .ok (.lst (.int 0 :: (cn w c).map fun x => .int (prt 0 x))) := bin_cat (by simp [LL]; omega)
    have mm := mx_ev (i := 0) (ts := cn w c)
    rw [mx1, ← hM1] at mm
    generalize (cn w c).map (fun x => D.int (prt 0 x)) = LX at cp ct mm
    simp [cp, LL, ct, mm]) (by simp [h6])]
  simp only [List.set_cons_succ, List.set_cons_zero]
  rw [s_asg (d := refD (kinD "NotPlain")) (by simp [LL, refD, kinD]) (by simp [h7])]
  simp only [List.set_cons_succ, List.set_cons_zero]
  rw [step1]
  rw [s_ifF0 (ev_cmpB (x := d1) (y := d1) (by simp [t1]) (by simp) (ne_self' ok1))]
  rw [s_asg (d := refD (kinD "NotPlain")) (by simp [LL, refD, kinD]) (by simp)]
  simp only [List.set_cons_succ, List.set_cons_zero]
  rw [step2]
  rw [s_ifF0 (ev_cmpB (x := d2) (y := d2) (by simp [t2]) (by simp) (ne_self' ok2))]
  rw [exSs_nil]
abbrev depth : Nat := 60
theorem law_true : ∀ ns : List Int, ns.length ≤ 63 → call P C depth d_law.id [.lst (ns.map .int)] = .ok (.bl true) := by
  intro ns hns
  obtain ⟨ρ', h⟩ := law_cells2 (n := 58) (ns := ns) (k := 4) (by decide) (by decide) 8 (body := lb_law_0) (turn_law (n := 19) (lsI ns))
  refine call_run (n := 59) rfl rfl (ρ := .sh (lsI ns) :: List.replicate 9 .un) rfl ?_
  have hl : exS (call P C 59) C lp_law_0 (.sh (lsI ns) :: List.replicate 9 .un) = .nx ρ' := h
  simp only [fd_law, exSs_cons, hl]
  simp
end Hx
open PySem PySem.W PyProof.Rows
theorem PySem.Challenge.cw_halfturn_k42_upright_slopes_and_brackets_holds : PySem.Challenge.rw_halfturn_k42_upright_slopes_and_brackets.Holds := by
  w_on; o_law; k_head; (case hw => w_witness2)
  k_fill
  refine Rv.run_law (l := PySem.Challenge.rw_halfturn_k42_upright_slopes_and_brackets) (T := Hx.T) (P := Hx.P) (C := Hx.C) (defs := Hx.defs) (k := Hx.depth) (dl := Hx.d_law) rfl Hx.all_ok (by simp [Hx.defs]) rfl ⟨rfl, rfl⟩ rfl Hx.law_true rfl rfl ⟨rfl, by decide, by decide⟩ (fun w h Y => PySem.W.kIn_of Y) ?F
  case F =>
    intro w mg h KX G
    refine' Rv.with_exc (x := "TurnError") KX G ?xa ?xq ?xk ?xs ?xt fun e1 => ?_
    (case xa => k_is); (case xq => k_exc); (case xk => k_is); (case xs => k_is); (case xt => k_is)
    refine' Rv.with_exc (x := "NoShare") KX G ?xa ?xq ?xk ?xs ?xt fun e3 => ?_
    (case xa => k_is); (case xq => k_exc); (case xk => k_is); (case xs => k_is); (case xt => k_is)
    refine' Rv.with_exc (x := "Unlike") KX G ?xa ?xq ?xk ?xs ?xt fun e4 => ?_
    (case xa => k_is); (case xq => k_exc); (case xk => k_is); (case xs => k_is); (case xt => k_is)
    refine' Rv.with_exc (x := "TooHeavy") KX G ?xa ?xq ?xk ?xs ?xt fun e5 => ?_
    (case xa => k_is); (case xq => k_exc); (case xk => k_is); (case xs => k_is); (case xt => k_is)
    refine' Rv.with_exc (x := "Short") KX G ?xa ?xq ?xk ?xs ?xt fun e6 => ?_
    (case xa => k_is); (case xq => k_exc); (case xk => k_is); (case xs => k_is); (case xt => k_is)
    refine' Rv.with_exc (x := "NotPlain") KX G ?xa ?xq ?xk ?xs ?xt fun e7 => ?_
    (case xa => k_is); (case xq => k_exc); (case xk => k_is); (case xs => k_is); (case xt => k_is)
    refine' Rv.with_exc (x := "NotWhole") KX G ?xa ?xq ?xk ?xs ?xt fun e8 => ?_
    (case xa => k_is); (case xq => k_exc); (case xk => k_is); (case xs => k_is); (case xt => k_is)
    refine' Rv.with_exc (x := "Nought") KX G ?xa ?xq ?xk ?xs ?xt fun e9 => ?_
    (case xa => k_is); (case xq => k_exc); (case xk => k_is); (case xs => k_is); (case xt => k_is)
    refine' Rv.with_exc (x := "NoName") KX G ?xa ?xq ?xk ?xs ?xt fun e10 => ?_
    (case xa => k_is); (case xq => k_exc); (case xk => k_is); (case xs => k_is); (case xt => k_is)
    refine' Rv.with_exc (x := "NoForm") KX G ?xa ?xq ?xk ?xs ?xt fun e11 => ?_
    (case xa => k_is); (case xq => k_exc); (case xk => k_is); (case xs => k_is); (case xt => k_is)
    refine' Rv.with_exc (x := "NoRecipe") KX G ?xa ?xq ?xk ?xs ?xt fun e12 => ?_
    (case xa => k_is); (case xq => k_exc); (case xk => k_is); (case xs => k_is); (case xt => k_is)
    refine' Rv.with_exc (x := "NoCell") KX G ?xa ?xq ?xk ?xs ?xt fun e13 => ?_
    (case xa => k_is); (case xq => k_exc); (case xk => k_is); (case xs => k_is); (case xt => k_is)
    refine' Rv.with_exc (x := "Ring") KX G ?xa ?xq ?xk ?xs ?xt fun e14 => ?_
    (case xa => k_is); (case xq => k_exc); (case xk => k_is); (case xs => k_is); (case xt => k_is)
    refine' Rv.with_exc (x := "TooMany") KX G ?xa ?xq ?xk ?xs ?xt fun e15 => ?_
    (case xa => k_is); (case xq => k_exc); (case xk => k_is); (case xs => k_is); (case xt => k_is)
    refine' Rv.with_exc (x := "InUse") KX G ?xa ?xq ?xk ?xs ?xt fun e16 => ?_
    (case xa => k_is); (case xq => k_exc); (case xk => k_is); (case xs => k_is); (case xt => k_is)
    refine' Rv.with_exc (x := "NoText") KX G ?xa ?xq ?xk ?xs ?xt fun e17 => ?_
    (case xa => k_is); (case xq => k_exc); (case xk => k_is); (case xs => k_is); (case xt => k_is)
    refine' Rv.with_cls (x := "NotMade") KX G ?xa fun o2 => ?_
    (case xa => k_is)
    refine' Rv.with_none (x := "ValueError") KX G ?xa fun zV => ?_
    (case xa => k_is)
    refine' Rv.with_def (x := "_law_kin") (st := Hx.top 60) KX G ?xa ?xl ?xc ?xk fun hK => ?_
    (case xa => k_is); (case xl => k_is); (case xc => k_is); (case xk => k_is)
    refine' Rv.with_isc KX e16.g ?d ?t fun d16 => ?_
    (case d => k_is); (case t => k_is)
    refine' Rv.with_isc KX e13.g ?d ?t fun d13 => ?_
    (case d => k_is); (case t => k_is)
    refine' Rv.with_isc KX e11.g ?d ?t fun d11 => ?_
    (case d => k_is); (case t => k_is)
    refine' Rv.with_isc KX e10.g ?d ?t fun d10 => ?_
    (case d => k_is); (case t => k_is)
    refine' Rv.with_isc KX e12.g ?d ?t fun d12 => ?_
    (case d => k_is); (case t => k_is)
    refine' Rv.with_isc KX e3.g ?d ?t fun d3 => ?_
    (case d => k_is); (case t => k_is)
    refine' Rv.with_isc KX e17.g ?d ?t fun d17 => ?_
    (case d => k_is); (case t => k_is)
    refine' Rv.with_isc KX o2 ?d ?t fun d2 => ?_
    (case d => k_is); (case t => k_is)
    refine' Rv.with_isc KX e7.g ?d ?t fun d7 => ?_
    (case d => k_is); (case t => k_is)
    refine' Rv.with_isc KX e8.g ?d ?t fun d8 => ?_
    (case d => k_is); (case t => k_is)
    refine' Rv.with_isc KX e9.g ?d ?t fun d9 => ?_
    (case d => k_is); (case t => k_is)
    refine' Rv.with_isc KX e14.g ?d ?t fun d14 => ?_
    (case d => k_is); (case t => k_is)
    refine' Rv.with_isc KX e6.g ?d ?t fun d6 => ?_
    (case d => k_is); (case t => k_is)
    refine' Rv.with_isc KX e5.g ?d ?t fun d5 => ?_
    (case d => k_is); (case t => k_is)
    refine' Rv.with_isc KX e15.g ?d ?t fun d15 => ?_
    (case d => k_is); (case t => k_is)
    refine' Rv.with_isc KX e1.g ?d ?t fun d1 => ?_
    (case d => k_is); (case t => k_is)
    refine' Rv.with_isc KX e4.g ?d ?t fun d4 => ?_
    (case d => k_is); (case t => k_is)
    refine' Rv.with_excC e3 ?h0 ?h1 ?h2 ?h3 ?h4 ?h5 ?h6 ?h7 fun x3 => ?_
    (case h0 => k_is); (case h1 => k_is); (case h2 => k_is); (case h3 => k_is); (case h4 => k_is); (case h5 => k_is); (case h6 => k_is); (case h7 => k_is)
    refine' Rv.with_rows (x := "NoShare") (l := Hx.kinItems) (r := Hx.kr_NoShare) e3 (.cons (nm := Str.ofString "NoShare") (cl := Str.ofString "NoShare") (Rv.cls_ref e3.g) Rv.kit_same (.cons (nm := Str.ofString "Unlike") (cl := Str.ofString "Unlike") (Rv.cls_ref e4.g) (Rv.kit_ne (by decide) d4 ?k1) (.cons (nm := Str.ofString "TooHeavy") (cl := Str.ofString "TooHeavy") (Rv.cls_ref e5.g) (Rv.kit_ne (by decide) d5 ?k2) (.cons (nm := Str.ofString "Short") (cl := Str.ofString "Short") (Rv.cls_ref e6.g) (Rv.kit_ne (by decide) d6 ?k3) (.cons (nm := Str.ofString "NotPlain") (cl := Str.ofString "NotPlain") (Rv.cls_ref e7.g) (Rv.kit_ne (by decide) d7 ?k4) (.cons (nm := Str.ofString "NotWhole") (cl := Str.ofString "NotWhole") (Rv.cls_ref e8.g) (Rv.kit_ne (by decide) d8 ?k5) (.cons (nm := Str.ofString "Nought") (cl := Str.ofString "Nought") (Rv.cls_ref e9.g) (Rv.kit_ne (by decide) d9 ?k6) (.cons (nm := Str.ofString "NoName") (cl := Str.ofString "NoName") (Rv.cls_ref e10.g) (Rv.kit_ne (by decide) d10 ?k7) (.cons (nm := Str.ofString "NoForm") (cl := Str.ofString "NoForm") (Rv.cls_ref e11.g) (Rv.kit_ne (by decide) d11 ?k8) (.cons (nm := Str.ofString "NoRecipe") (cl := Str.ofString "NoRecipe") (Rv.cls_ref e12.g) (Rv.kit_ne (by decide) d12 ?k9) (.cons (nm := Str.ofString "NoCell") (cl := Str.ofString "NoCell") (Rv.cls_ref e13.g) (Rv.kit_ne (by decide) d13 ?k10) (.cons (nm := Str.ofString "Ring") (cl := Str.ofString "Ring") (Rv.cls_ref e14.g) (Rv.kit_ne (by decide) d14 ?k11) (.cons (nm := Str.ofString "TooMany") (cl := Str.ofString "TooMany") (Rv.cls_ref e15.g) (Rv.kit_ne (by decide) d15 ?k12) (.cons (nm := Str.ofString "NotMade") (cl := Str.ofString "NotMade") (Rv.cls_ref o2) (Rv.kit_ne (by decide) d2 ?k13) (.cons (nm := Str.ofString "InUse") (cl := Str.ofString "InUse") (Rv.cls_ref e16.g) (Rv.kit_ne (by decide) d16 ?k14) (.cons (nm := Str.ofString "NoText") (cl := Str.ofString "NoText") (Rv.cls_ref e17.g) (Rv.kit_ne (by decide) d17 ?k15) (.cons (nm := Str.ofString "ValueError") (cl := Str.ofString "ValueError") (v := .ty "ValueError") (cv := .type "ValueError") ⟨rfl, fun _ h => h, .inr ⟨zV, rfl⟩⟩ (Rv.kit_ty (by decide +kernel) ?k16) .nil))))))))))))))))) fun r3 => ?_
    (case k1 => k_is)
    (case k2 => k_is)
    (case k3 => k_is)
    (case k4 => k_is)
    (case k5 => k_is)
    (case k6 => k_is)
    (case k7 => k_is)
    (case k8 => k_is)
    (case k9 => k_is)
    (case k10 => k_is)
    (case k11 => k_is)
    (case k12 => k_is)
    (case k13 => k_is)
    (case k14 => k_is)
    (case k15 => k_is)
    (case k16 => k_is)
    refine' Rv.with_te e3 e1 d1 ?te fun t3 => ?_
    (case te => k_is)
    refine' Rv.with_excC e4 ?h0 ?h1 ?h2 ?h3 ?h4 ?h5 ?h6 ?h7 fun x4 => ?_
    (case h0 => k_is); (case h1 => k_is); (case h2 => k_is); (case h3 => k_is); (case h4 => k_is); (case h5 => k_is); (case h6 => k_is); (case h7 => k_is)
    refine' Rv.with_rows (x := "Unlike") (l := Hx.kinItems) (r := Hx.kr_Unlike) e4 (.cons (nm := Str.ofString "NoShare") (cl := Str.ofString "NoShare") (Rv.cls_ref e3.g) (Rv.kit_ne (by decide) d3 ?k0) (.cons (nm := Str.ofString "Unlike") (cl := Str.ofString "Unlike") (Rv.cls_ref e4.g) Rv.kit_same (.cons (nm := Str.ofString "TooHeavy") (cl := Str.ofString "TooHeavy") (Rv.cls_ref e5.g) (Rv.kit_ne (by decide) d5 ?k2) (.cons (nm := Str.ofString "Short") (cl := Str.ofString "Short") (Rv.cls_ref e6.g) (Rv.kit_ne (by decide) d6 ?k3) (.cons (nm := Str.ofString "NotPlain") (cl := Str.ofString "NotPlain") (Rv.cls_ref e7.g) (Rv.kit_ne (by decide) d7 ?k4) (.cons (nm := Str.ofString "NotWhole") (cl := Str.ofString "NotWhole") (Rv.cls_ref e8.g) (Rv.kit_ne (by decide) d8 ?k5) (.cons (nm := Str.ofString "Nought") (cl := Str.ofString "Nought") (Rv.cls_ref e9.g) (Rv.kit_ne (by decide) d9 ?k6) (.cons (nm := Str.ofString "NoName") (cl := Str.ofString "NoName") (Rv.cls_ref e10.g) (Rv.kit_ne (by decide) d10 ?k7) (.cons (nm := Str.ofString "NoForm") (cl := Str.ofString "NoForm") (Rv.cls_ref e11.g) (Rv.kit_ne (by decide) d11 ?k8) (.cons (nm := Str.ofString "NoRecipe") (cl := Str.ofString "NoRecipe") (Rv.cls_ref e12.g) (Rv.kit_ne (by decide) d12 ?k9) (.cons (nm := Str.ofString "NoCell") (cl := Str.ofString "NoCell") (Rv.cls_ref e13.g) (Rv.kit_ne (by decide) d13 ?k10) (.cons (nm := Str.ofString "Ring") (cl := Str.ofString "Ring") (Rv.cls_ref e14.g) (Rv.kit_ne (by decide) d14 ?k11) (.cons (nm := Str.ofString "TooMany") (cl := Str.ofString "TooMany") (Rv.cls_ref e15.g) (Rv.kit_ne (by decide) d15 ?k12) (.cons (nm := Str.ofString "NotMade") (cl := Str.ofString "NotMade") (Rv.cls_ref o2) (Rv.kit_ne (by decide) d2 ?k13) (.cons (nm := Str.ofString "InUse") (cl := Str.ofString "InUse") (Rv.cls_ref e16.g) (Rv.kit_ne (by decide) d16 ?k14) (.cons (nm := Str.ofString "NoText") (cl := Str.ofString "NoText") (Rv.cls_ref e17.g) (Rv.kit_ne (by decide) d17 ?k15) (.cons (nm := Str.ofString "ValueError") (cl := Str.ofString "ValueError") (v := .ty "ValueError") (cv := .type "ValueError") ⟨rfl, fun _ h => h, .inr ⟨zV, rfl⟩⟩ (Rv.kit_ty (by decide +kernel) ?k16) .nil))))))))))))))))) fun r4 => ?_
    (case k0 => k_is)
    (case k2 => k_is)
    (case k3 => k_is)
    (case k4 => k_is)
    (case k5 => k_is)
    (case k6 => k_is)
    (case k7 => k_is)
    (case k8 => k_is)
    (case k9 => k_is)
    (case k10 => k_is)
    (case k11 => k_is)
    (case k12 => k_is)
    (case k13 => k_is)
    (case k14 => k_is)
    (case k15 => k_is)
    (case k16 => k_is)
    refine' Rv.with_te e4 e1 d1 ?te fun t4 => ?_
    (case te => k_is)
    refine' Rv.with_excC e5 ?h0 ?h1 ?h2 ?h3 ?h4 ?h5 ?h6 ?h7 fun x5 => ?_
    (case h0 => k_is); (case h1 => k_is); (case h2 => k_is); (case h3 => k_is); (case h4 => k_is); (case h5 => k_is); (case h6 => k_is); (case h7 => k_is)
    refine' Rv.with_rows (x := "TooHeavy") (l := Hx.kinItems) (r := Hx.kr_TooHeavy) e5 (.cons (nm := Str.ofString "NoShare") (cl := Str.ofString "NoShare") (Rv.cls_ref e3.g) (Rv.kit_ne (by decide) d3 ?k0) (.cons (nm := Str.ofString "Unlike") (cl := Str.ofString "Unlike") (Rv.cls_ref e4.g) (Rv.kit_ne (by decide) d4 ?k1) (.cons (nm := Str.ofString "TooHeavy") (cl := Str.ofString "TooHeavy") (Rv.cls_ref e5.g) Rv.kit_same (.cons (nm := Str.ofString "Short") (cl := Str.ofString "Short") (Rv.cls_ref e6.g) (Rv.kit_ne (by decide) d6 ?k3) (.cons (nm := Str.ofString "NotPlain") (cl := Str.ofString "NotPlain") (Rv.cls_ref e7.g) (Rv.kit_ne (by decide) d7 ?k4) (.cons (nm := Str.ofString "NotWhole") (cl := Str.ofString "NotWhole") (Rv.cls_ref e8.g) (Rv.kit_ne (by decide) d8 ?k5) (.cons (nm := Str.ofString "Nought") (cl := Str.ofString "Nought") (Rv.cls_ref e9.g) (Rv.kit_ne (by decide) d9 ?k6) (.cons (nm := Str.ofString "NoName") (cl := Str.ofString "NoName") (Rv.cls_ref e10.g) (Rv.kit_ne (by decide) d10 ?k7) (.cons (nm := Str.ofString "NoForm") (cl := Str.ofString "NoForm") (Rv.cls_ref e11.g) (Rv.kit_ne (by decide) d11 ?k8) (.cons (nm := Str.ofString "NoRecipe") (cl := Str.ofString "NoRecipe") (Rv.cls_ref e12.g) (Rv.kit_ne (by decide) d12 ?k9) (.cons (nm := Str.ofString "NoCell") (cl := Str.ofString "NoCell") (Rv.cls_ref e13.g) (Rv.kit_ne (by decide) d13 ?k10) (.cons (nm := Str.ofString "Ring") (cl := Str.ofString "Ring") (Rv.cls_ref e14.g) (Rv.kit_ne (by decide) d14 ?k11) (.cons (nm := Str.ofString "TooMany") (cl := Str.ofString "TooMany") (Rv.cls_ref e15.g) (Rv.kit_ne (by decide) d15 ?k12) (.cons (nm := Str.ofString "NotMade") (cl := Str.ofString "NotMade") (Rv.cls_ref o2) (Rv.kit_ne (by decide) d2 ?k13) (.cons (nm := Str.ofString "InUse") (cl := Str.ofString "InUse") (Rv.cls_ref e16.g) (Rv.kit_ne (by decide) d16 ?k14) (.cons (nm := Str.ofString "NoText") (cl := Str.ofString "NoText") (Rv.cls_ref e17.g) (Rv.kit_ne (by decide) d17 ?k15) (.cons (nm := Str.ofString "ValueError") (cl := Str.ofString "ValueError") (v := .ty "ValueError") (cv := .type "ValueError") ⟨rfl, fun _ h => h, .inr ⟨zV, rfl⟩⟩ (Rv.kit_ty (by decide +kernel) ?k16) .nil))))))))))))))))) fun r5 => ?_
    (case k0 => k_is)
    (case k1 => k_is)
    (case k3 => k_is)
    (case k4 => k_is)
    (case k5 => k_is)
    (case k6 => k_is)
    (case k7 => k_is)
    (case k8 => k_is)
    (case k9 => k_is)
    (case k10 => k_is)
    (case k11 => k_is)
    (case k12 => k_is)
    (case k13 => k_is)
    (case k14 => k_is)
    (case k15 => k_is)
    (case k16 => k_is)
    refine' Rv.with_te e5 e1 d1 ?te fun t5 => ?_
    (case te => k_is)
    refine' Rv.with_excC e7 ?h0 ?h1 ?h2 ?h3 ?h4 ?h5 ?h6 ?h7 fun x7 => ?_
    (case h0 => k_is); (case h1 => k_is); (case h2 => k_is); (case h3 => k_is); (case h4 => k_is); (case h5 => k_is); (case h6 => k_is); (case h7 => k_is)
    refine' Rv.with_rows (x := "NotPlain") (l := Hx.kinItems) (r := Hx.kr_NotPlain) e7 (.cons (nm := Str.ofString "NoShare") (cl := Str.ofString "NoShare") (Rv.cls_ref e3.g) (Rv.kit_ne (by decide) d3 ?k0) (.cons (nm := Str.ofString "Unlike") (cl := Str.ofString "Unlike") (Rv.cls_ref e4.g) (Rv.kit_ne (by decide) d4 ?k1) (.cons (nm := Str.ofString "TooHeavy") (cl := Str.ofString "TooHeavy") (Rv.cls_ref e5.g) (Rv.kit_ne (by decide) d5 ?k2) (.cons (nm := Str.ofString "Short") (cl := Str.ofString "Short") (Rv.cls_ref e6.g) (Rv.kit_ne (by decide) d6 ?k3) (.cons (nm := Str.ofString "NotPlain") (cl := Str.ofString "NotPlain") (Rv.cls_ref e7.g) Rv.kit_same (.cons (nm := Str.ofString "NotWhole") (cl := Str.ofString "NotWhole") (Rv.cls_ref e8.g) (Rv.kit_ne (by decide) d8 ?k5) (.cons (nm := Str.ofString "Nought") (cl := Str.ofString "Nought") (Rv.cls_ref e9.g) (Rv.kit_ne (by decide) d9 ?k6) (.cons (nm := Str.ofString "NoName") (cl := Str.ofString "NoName") (Rv.cls_ref e10.g) (Rv.kit_ne (by decide) d10 ?k7) (.cons (nm := Str.ofString "NoForm") (cl := Str.ofString "NoForm") (Rv.cls_ref e11.g) (Rv.kit_ne (by decide) d11 ?k8) (.cons (nm := Str.ofString "NoRecipe") (cl := Str.ofString "NoRecipe") (Rv.cls_ref e12.g) (Rv.kit_ne (by decide) d12 ?k9) (.cons (nm := Str.ofString "NoCell") (cl := Str.ofString "NoCell") (Rv.cls_ref e13.g) (Rv.kit_ne (by decide) d13 ?k10) (.cons (nm := Str.ofString "Ring") (cl := Str.ofString "Ring") (Rv.cls_ref e14.g) (Rv.kit_ne (by decide) d14 ?k11) (.cons (nm := Str.ofString "TooMany") (cl := Str.ofString "TooMany") (Rv.cls_ref e15.g) (Rv.kit_ne (by decide) d15 ?k12) (.cons (nm := Str.ofString "NotMade") (cl := Str.ofString "NotMade") (Rv.cls_ref o2) (Rv.kit_ne (by decide) d2 ?k13) (.cons (nm := Str.ofString "InUse") (cl := Str.ofString "InUse") (Rv.cls_ref e16.g) (Rv.kit_ne (by decide) d16 ?k14) (.cons (nm := Str.ofString "NoText") (cl := Str.ofString "NoText") (Rv.cls_ref e17.g) (Rv.kit_ne (by decide) d17 ?k15) (.cons (nm := Str.ofString "ValueError") (cl := Str.ofString "ValueError") (v := .ty "ValueError") (cv := .type "ValueError") ⟨rfl, fun _ h => h, .inr ⟨zV, rfl⟩⟩ (Rv.kit_ty (by decide +kernel) ?k16) .nil))))))))))))))))) fun r7 => ?_
    (case k0 => k_is)
    (case k1 => k_is)
    (case k2 => k_is)
    (case k3 => k_is)
    (case k5 => k_is)
    (case k6 => k_is)
    (case k7 => k_is)
    (case k8 => k_is)
    (case k9 => k_is)
    (case k10 => k_is)
    (case k11 => k_is)
    (case k12 => k_is)
    (case k13 => k_is)
    (case k14 => k_is)
    (case k15 => k_is)
    (case k16 => k_is)
    refine' Rv.with_te e7 e1 d1 ?te fun t7 => ?_
    (case te => k_is)
    obtain ⟨a3, e3, x3, r3, t3⟩ := (⟨_, e3, x3, r3, _, e1.g, t3⟩ : ∃ a, Rv.HasExc _ mg _ a ∧ L2.ExcC _ a ∧ Rv.KinRows _ mg a Hx.kinItems Hx.kr_NoShare ∧ ∃ t, mg (Str.ofString "TurnError") = some (.ref t) ∧ PySem.W.exmOne _ (.ref a) (.ref t) = some true)
    obtain ⟨a4, e4, x4, r4, t4⟩ := (⟨_, e4, x4, r4, _, e1.g, t4⟩ : ∃ a, Rv.HasExc _ mg _ a ∧ L2.ExcC _ a ∧ Rv.KinRows _ mg a Hx.kinItems Hx.kr_Unlike ∧ ∃ t, mg (Str.ofString "TurnError") = some (.ref t) ∧ PySem.W.exmOne _ (.ref a) (.ref t) = some true)
    obtain ⟨a5, e5, x5, r5, t5⟩ := (⟨_, e5, x5, r5, _, e1.g, t5⟩ : ∃ a, Rv.HasExc _ mg _ a ∧ L2.ExcC _ a ∧ Rv.KinRows _ mg a Hx.kinItems Hx.kr_TooHeavy ∧ ∃ t, mg (Str.ofString "TurnError") = some (.ref t) ∧ PySem.W.exmOne _ (.ref a) (.ref t) = some true)
    obtain ⟨a7, e7, x7, r7, t7⟩ := (⟨_, e7, x7, r7, _, e1.g, t7⟩ : ∃ a, Rv.HasExc _ mg _ a ∧ L2.ExcC _ a ∧ Rv.KinRows _ mg a Hx.kinItems Hx.kr_NotPlain ∧ ∃ t, mg (Str.ofString "TurnError") = some (.ref t) ∧ PySem.W.exmOne _ (.ref a) (.ref t) = some true)
    obtain ⟨a1, e1⟩ := (⟨_, e1⟩ : ∃ a, Rv.HasExc _ mg _ a)
    obtain ⟨a6, e6⟩ := (⟨_, e6⟩ : ∃ a, Rv.HasExc _ mg _ a)
    obtain ⟨a8, e8⟩ := (⟨_, e8⟩ : ∃ a, Rv.HasExc _ mg _ a)
    obtain ⟨a9, e9⟩ := (⟨_, e9⟩ : ∃ a, Rv.HasExc _ mg _ a)
    obtain ⟨a10, e10⟩ := (⟨_, e10⟩ : ∃ a, Rv.HasExc _ mg _ a)
    obtain ⟨a11, e11⟩ := (⟨_, e11⟩ : ∃ a, Rv.HasExc _ mg _ a)
    obtain ⟨a12, e12⟩ := (⟨_, e12⟩ : ∃ a, Rv.HasExc _ mg _ a)
    obtain ⟨a13, e13⟩ := (⟨_, e13⟩ : ∃ a, Rv.HasExc _ mg _ a)
    obtain ⟨a14, e14⟩ := (⟨_, e14⟩ : ∃ a, Rv.HasExc _ mg _ a)
    obtain ⟨a15, e15⟩ := (⟨_, e15⟩ : ∃ a, Rv.HasExc _ mg _ a)
    obtain ⟨a16, e16⟩ := (⟨_, e16⟩ : ∃ a, Rv.HasExc _ mg _ a)
    obtain ⟨a17, e17⟩ := (⟨_, e17⟩ : ∃ a, Rv.HasExc _ mg _ a)
    refine' Rv.with_def (x := "divisor") (st := Hx.top 21) KX G ?xa ?xl ?xc ?xk fun h21 => ?_
    (case xa => k_is); (case xl => k_is); (case xc => k_is); (case xk => k_is)
    refine' Rv.with_def (x := "fraction") (st := Hx.top 22) KX G ?xa ?xl ?xc ?xk fun h22 => ?_
    (case xa => k_is); (case xl => k_is); (case xc => k_is); (case xk => k_is)
    refine' Rv.with_def (x := "added") (st := Hx.top 23) KX G ?xa ?xl ?xc ?xk fun h23 => ?_
    (case xa => k_is); (case xl => k_is); (case xc => k_is); (case xk => k_is)
    refine' Rv.with_def (x := "times") (st := Hx.top 24) KX G ?xa ?xl ?xc ?xk fun h24 => ?_
    (case xa => k_is); (case xl => k_is); (case xc => k_is); (case xk => k_is)
    refine' Rv.with_def (x := "ways") (st := Hx.top 25) KX G ?xa ?xl ?xc ?xk fun h25 => ?_
    (case xa => k_is); (case xl => k_is); (case xc => k_is); (case xk => k_is)
    refine' Rv.with_def (x := "gathered") (st := Hx.top 28) KX G ?xa ?xl ?xc ?xk fun h28 => ?_
    (case xa => k_is); (case xl => k_is); (case xc => k_is); (case xk => k_is)
    refine' Rv.with_def (x := "depth") (st := Hx.top 29) KX G ?xa ?xl ?xc ?xk fun h29 => ?_
    (case xa => k_is); (case xl => k_is); (case xc => k_is); (case xk => k_is)
    refine' Rv.with_def (x := "is_plain") (st := Hx.top 30) KX G ?xa ?xl ?xc ?xk fun h30 => ?_
    (case xa => k_is); (case xl => k_is); (case xc => k_is); (case xk => k_is)
    refine' Rv.with_def (x := "check_weight") (st := Hx.top 31) KX G ?xa ?xl ?xc ?xk fun h31 => ?_
    (case xa => k_is); (case xl => k_is); (case xc => k_is); (case xk => k_is)
    refine' Rv.with_def (x := "form_sum") (st := Hx.top 32) KX G ?xa ?xl ?xc ?xk fun h32 => ?_
    (case xa => k_is); (case xl => k_is); (case xc => k_is); (case xk => k_is)
    refine' Rv.with_def (x := "form_times") (st := Hx.top 33) KX G ?xa ?xl ?xc ?xk fun h33 => ?_
    (case xa => k_is); (case xl => k_is); (case xc => k_is); (case xk => k_is)
    refine' Rv.with_def (x := "form_product") (st := Hx.top 34) KX G ?xa ?xl ?xc ?xk fun h34 => ?_
    (case xa => k_is); (case xl => k_is); (case xc => k_is); (case xk => k_is)
    refine' Rv.with_def (x := "rated") (st := Hx.top 35) KX G ?xa ?xl ?xc ?xk fun h35 => ?_
    (case xa => k_is); (case xl => k_is); (case xc => k_is); (case xk => k_is)
    refine' Rv.with_def (x := "slope") (st := Hx.top 36) KX G ?xa ?xl ?xc ?xk fun h36 => ?_
    (case xa => k_is); (case xl => k_is); (case xc => k_is); (case xk => k_is)
    refine' Rv.with_def (x := "check_plain") (st := Hx.top 38) KX G ?xa ?xl ?xc ?xk fun h38 => ?_
    (case xa => k_is); (case xl => k_is); (case xc => k_is); (case xk => k_is)
    refine' Rv.with_def (x := "upright") (st := Hx.top 40) KX G ?xa ?xl ?xc ?xk fun h40 => ?_
    (case xa => k_is); (case xl => k_is); (case xc => k_is); (case xk => k_is)
    refine' Rv.with_def (x := "lowest") (st := Hx.top 41) KX G ?xa ?xl ?xc ?xk fun h41 => ?_
    (case xa => k_is); (case xl => k_is); (case xc => k_is); (case xk => k_is)
    refine' Rv.with_def (x := "slopes") (st := Hx.top 42) KX G ?xa ?xl ?xc ?xk fun h42 => ?_
    (case xa => k_is); (case xl => k_is); (case xc => k_is); (case xk => k_is)
    refine' Rv.with_defK (x := "bracket") (kn := "n") (st := Hx.top 43) KX G ?xa ?xl ?xd ?xc ?xk fun h43 => ?_
    (case xa => k_is); (case xl => k_is); (case xd => k_is); (case xc => k_is); (case xk => k_is)
    refine' Rv.with_def (x := "_law_cell_at") (st := Hx.top 45) KX G ?xa ?xl ?xc ?xk fun h45 => ?_
    (case xa => k_is); (case xl => k_is); (case xc => k_is); (case xk => k_is)
    refine' Rv.with_def (x := "_law_draws") (st := Hx.top 46) KX G ?xa ?xl ?xc ?xk fun h46 => ?_
    (case xa => k_is); (case xl => k_is); (case xc => k_is); (case xk => k_is)
    refine' Rv.with_def (x := "_law_gcd") (st := Hx.top 47) KX G ?xa ?xl ?xc ?xk fun h47 => ?_
    (case xa => k_is); (case xl => k_is); (case xc => k_is); (case xk => k_is)
    refine' Rv.with_def (x := "_law_frac") (st := Hx.top 48) KX G ?xa ?xl ?xc ?xk fun h48 => ?_
    (case xa => k_is); (case xl => k_is); (case xc => k_is); (case xk => k_is)
    refine' Rv.with_def (x := "_law_add") (st := Hx.top 49) KX G ?xa ?xl ?xc ?xk fun h49 => ?_
    (case xa => k_is); (case xl => k_is); (case xc => k_is); (case xk => k_is)
    refine' Rv.with_def (x := "_law_mul") (st := Hx.top 50) KX G ?xa ?xl ?xc ?xk fun h50 => ?_
    (case xa => k_is); (case xl => k_is); (case xc => k_is); (case xk => k_is)
    refine' Rv.with_def (x := "_law_a_number") (st := Hx.top 51) KX G ?xa ?xl ?xc ?xk fun h51 => ?_
    (case xa => k_is); (case xl => k_is); (case xc => k_is); (case xk => k_is)
    refine' Rv.with_def (x := "_law_triples") (st := Hx.top 52) KX G ?xa ?xl ?xc ?xk fun h52 => ?_
    (case xa => k_is); (case xl => k_is); (case xc => k_is); (case xk => k_is)
    refine' Rv.with_def (x := "_law_gathered") (st := Hx.top 53) KX G ?xa ?xl ?xc ?xk fun h53 => ?_
    (case xa => k_is); (case xl => k_is); (case xc => k_is); (case xk => k_is)
    refine' Rv.with_def (x := "_law_a_form") (st := Hx.top 54) KX G ?xa ?xl ?xc ?xk fun h54 => ?_
    (case xa => k_is); (case xl => k_is); (case xc => k_is); (case xk => k_is)
    refine' Rv.with_def (x := "_law_weight") (st := Hx.top 55) KX G ?xa ?xl ?xc ?xk fun h55 => ?_
    (case xa => k_is); (case xl => k_is); (case xc => k_is); (case xk => k_is)
    refine' Rv.with_def (x := "_law_form_sum") (st := Hx.top 56) KX G ?xa ?xl ?xc ?xk fun h56 => ?_
    (case xa => k_is); (case xl => k_is); (case xc => k_is); (case xk => k_is)
    refine' Rv.with_def (x := "_law_form_product") (st := Hx.top 57) KX G ?xa ?xl ?xc ?xk fun h57 => ?_
    (case xa => k_is); (case xl => k_is); (case xc => k_is); (case xk => k_is)
    refine' Rv.with_def (x := "_law_slope") (st := Hx.top 58) KX G ?xa ?xl ?xc ?xk fun h58 => ?_
    (case xa => k_is); (case xl => k_is); (case xc => k_is); (case xk => k_is)
    refine' Rv.with_def (x := "_law_ways") (st := Hx.top 59) KX G ?xa ?xl ?xc ?xk fun h59 => ?_
    (case xa => k_is); (case xl => k_is); (case xc => k_is); (case xk => k_is)
    refine' Rv.with_def (x := "_law_told") (st := Hx.top 61) KX G ?xa ?xl ?xc ?xk fun h61 => ?_
    (case xa => k_is); (case xl => k_is); (case xc => k_is); (case xk => k_is)
    refine' Rv.with_def (x := "_law_bracket") (st := Hx.top 62) KX G ?xa ?xl ?xc ?xk fun h62 => ?_
    (case xa => k_is); (case xl => k_is); (case xc => k_is); (case xk => k_is)
    refine' Rv.with_def (x := "law") (st := Hx.top 63) KX G ?xa ?xl ?xc ?xk fun h63 => ?_
    (case xa => k_is); (case xl => k_is); (case xc => k_is); (case xk => k_is)
    refine' Rv.with_pair (x := "NOUGHT") KX G ?xa ?xl fun k19 => ?_
    (case xa => k_is); (case xl => k_is)
    refine' Rv.with_pair (x := "ONE") KX G ?xa ?xl fun k20 => ?_
    (case xa => k_is); (case xl => k_is)
    refine' Rv.with_cint (x := "HEAVIEST") KX G ?xa fun k27 => ?_
    (case xa => k_is)
    refine' Rv.with_none (x := "len") KX G ?xa fun z0 => ?_
    (case xa => k_is)
    refine' Rv.with_none (x := "abs") KX G ?xa fun z1 => ?_
    (case xa => k_is)
    refine' Rv.with_none (x := "int") KX G ?xa fun z2 => ?_
    (case xa => k_is)
    refine' Rv.with_none (x := "min") KX G ?xa fun z3 => ?_
    (case xa => k_is)
    refine' Rv.with_none (x := "max") KX G ?xa fun z4 => ?_
    (case xa => k_is)
    refine' Rv.with_none (x := "sum") KX G ?xa fun z5 => ?_
    (case xa => k_is)
    refine' Rv.with_none (x := "all") KX G ?xa fun z6 => ?_
    (case xa => k_is)
    refine' Rv.with_none (x := "any") KX G ?xa fun z7 => ?_
    (case xa => k_is)
    refine' Rv.with_none (x := "tuple") KX G ?xa fun z8 => ?_
    (case xa => k_is)
    refine' Rv.with_none (x := "list") KX G ?xa fun z9 => ?_
    (case xa => k_is)
    refine' Rv.with_none (x := "repr") KX G ?xa fun z10 => ?_
    (case xa => k_is)
    refine' Rv.with_none (x := "isinstance") KX G ?xa fun z11 => ?_
    (case xa => k_is)
    refine' Rv.with_none (x := "bool") KX G ?xa fun z12 => ?_
    (case xa => k_is)
    refine' Rv.with_none (x := "str") KX G ?xa fun z13 => ?_
    (case xa => k_is)
    refine' Rv.with_none (x := "range") KX G ?xa fun z14 => ?_
    (case xa => k_is)
    refine' Rv.with_none (x := "enumerate") KX G ?xa fun z15 => ?_
    (case xa => k_is)
    refine' Rv.with_none (x := "zip") KX G ?xa fun z16 => ?_
    (case xa => k_is)
    refine' Rv.with_none (x := "sorted") KX G ?xa fun z17 => ?_
    (case xa => k_is)
    refine' Rv.with_none (x := "set") KX G ?xa fun z18 => ?_
    (case xa => k_is)
    refine ⟨⟨fun c => if c = 1 then a1 else if c = 3 then a3 else if c = 4 then a4 else if c = 5 then a5 else if c = 6 then a6 else if c = 7 then a7 else if c = 8 then a8 else if c = 9 then a9 else if c = 10 then a10 else if c = 11 then a11 else if c = 12 then a12 else if c = 13 then a13 else if c = 14 then a14 else if c = 15 then a15 else if c = 16 then a16 else if c = 17 then a17 else 0, fun x c hx => ?_, fun c l hk => ?_⟩, fun d hd => ?_, fun x hx => ?_, fun g i hg => ?_⟩
    · simp only [Hx.T, List.lookup_cons, List.lookup_nil] at hx
      split at hx
      · rename_i q; cases hx; rw [beq_iff_eq.mp q]; exact e1
      split at hx
      · rename_i q; cases hx; rw [beq_iff_eq.mp q]; exact e3
      split at hx
      · rename_i q; cases hx; rw [beq_iff_eq.mp q]; exact e4
      split at hx
      · rename_i q; cases hx; rw [beq_iff_eq.mp q]; exact e5
      split at hx
      · rename_i q; cases hx; rw [beq_iff_eq.mp q]; exact e6
      split at hx
      · rename_i q; cases hx; rw [beq_iff_eq.mp q]; exact e7
      split at hx
      · rename_i q; cases hx; rw [beq_iff_eq.mp q]; exact e8
      split at hx
      · rename_i q; cases hx; rw [beq_iff_eq.mp q]; exact e9
      split at hx
      · rename_i q; cases hx; rw [beq_iff_eq.mp q]; exact e10
      split at hx
      · rename_i q; cases hx; rw [beq_iff_eq.mp q]; exact e11
      split at hx
      · rename_i q; cases hx; rw [beq_iff_eq.mp q]; exact e12
      split at hx
      · rename_i q; cases hx; rw [beq_iff_eq.mp q]; exact e13
      split at hx
      · rename_i q; cases hx; rw [beq_iff_eq.mp q]; exact e14
      split at hx
      · rename_i q; cases hx; rw [beq_iff_eq.mp q]; exact e15
      split at hx
      · rename_i q; cases hx; rw [beq_iff_eq.mp q]; exact e16
      split at hx
      · rename_i q; cases hx; rw [beq_iff_eq.mp q]; exact e17
      cases hx
    · unfold Hx.C at hk
      split at hk
      · cases hk
      · cases hk
      · cases hk
      · cases hk
        refine ⟨⟨Hx.top 60, Hx.kinItems, Hx.kr_NoShare, hK, Hx.kin_sc, Hx.kin_bd, Hx.kin_ok, x3, r3, rfl⟩, fun cT hT => ?_⟩
        have hT : cT = 1 := by
          have z : List.lookup (Str.ofString "TurnError") Hx.T.exs = some 1 := by decide +kernel
          rw [z] at hT; exact (Option.some.inj hT).symm
        subst hT
        obtain ⟨t, g1, g2⟩ := t3
        have g3 := e1.g
        rw [show mg (Str.ofString "TurnError") = some (.ref t) from g1] at g3
        cases g3
        exact g2
      · cases hk
        refine ⟨⟨Hx.top 60, Hx.kinItems, Hx.kr_Unlike, hK, Hx.kin_sc, Hx.kin_bd, Hx.kin_ok, x4, r4, rfl⟩, fun cT hT => ?_⟩
        have hT : cT = 1 := by
          have z : List.lookup (Str.ofString "TurnError") Hx.T.exs = some 1 := by decide +kernel
          rw [z] at hT; exact (Option.some.inj hT).symm
        subst hT
        obtain ⟨t, g1, g2⟩ := t4
        have g3 := e1.g
        rw [show mg (Str.ofString "TurnError") = some (.ref t) from g1] at g3
        cases g3
        exact g2
      · cases hk
        refine ⟨⟨Hx.top 60, Hx.kinItems, Hx.kr_TooHeavy, hK, Hx.kin_sc, Hx.kin_bd, Hx.kin_ok, x5, r5, rfl⟩, fun cT hT => ?_⟩
        have hT : cT = 1 := by
          have z : List.lookup (Str.ofString "TurnError") Hx.T.exs = some 1 := by decide +kernel
          rw [z] at hT; exact (Option.some.inj hT).symm
        subst hT
        obtain ⟨t, g1, g2⟩ := t5
        have g3 := e1.g
        rw [show mg (Str.ofString "TurnError") = some (.ref t) from g1] at g3
        cases g3
        exact g2
      · cases hk
        refine ⟨⟨Hx.top 60, Hx.kinItems, Hx.kr_NotPlain, hK, Hx.kin_sc, Hx.kin_bd, Hx.kin_ok, x7, r7, rfl⟩, fun cT hT => ?_⟩
        have hT : cT = 1 := by
          have z : List.lookup (Str.ofString "TurnError") Hx.T.exs = some 1 := by decide +kernel
          rw [z] at hT; exact (Option.some.inj hT).symm
        subst hT
        obtain ⟨t, g1, g2⟩ := t7
        have g3 := e1.g
        rw [show mg (Str.ofString "TurnError") = some (.ref t) from g1] at g3
        cases g3
        exact g2
      · cases hk
    · simp only [Hx.defs, List.mem_cons, List.not_mem_nil, or_false] at hd
      rcases hd with rfl | rfl | rfl | rfl | rfl | rfl | rfl | rfl | rfl | rfl | rfl | rfl | rfl | rfl | rfl | rfl | rfl | rfl | rfl | rfl | rfl | rfl | rfl | rfl | rfl | rfl | rfl | rfl | rfl | rfl | rfl | rfl | rfl | rfl | rfl | rfl | rfl
      · exact h21
      · exact h22
      · exact h23
      · exact h24
      · exact h25
      · exact h28
      · exact h29
      · exact h30
      · exact h31
      · exact h32
      · exact h33
      · exact h34
      · exact h35
      · exact h36
      · exact h38
      · exact h40
      · exact h41
      · exact h42
      · exact h43
      · exact h45
      · exact h46
      · exact h47
      · exact h48
      · exact h49
      · exact h50
      · exact h51
      · exact h52
      · exact h53
      · exact h54
      · exact h55
      · exact h56
      · exact h57
      · exact h58
      · exact h59
      · exact h61
      · exact h62
      · exact h63
    · simp only [Rv.bltNames, List.mem_cons, List.not_mem_nil, or_false] at hx
      rcases hx with rfl | rfl | rfl | rfl | rfl | rfl | rfl | rfl | rfl | rfl | rfl | rfl | rfl | rfl | rfl | rfl | rfl | rfl | rfl
      · exact z0
      · exact z1
      · exact z2
      · exact z3
      · exact z4
      · exact z5
      · exact z6
      · exact z7
      · exact z8
      · exact z9
      · exact z10
      · exact z11
      · exact z12
      · exact z13
      · exact z14
      · exact z15
      · exact z16
      · exact z17
      · exact z18
    · simp only [Hx.T, List.lookup_cons, List.lookup_nil] at hg
      split at hg
      · rename_i q; cases hg; rw [beq_iff_eq.mp q]; exact k19
      split at hg
      · rename_i q; cases hg; rw [beq_iff_eq.mp q]; exact k20
      split at hg
      · rename_i q; cases hg; rw [beq_iff_eq.mp q]; exact k27
      cases hg
