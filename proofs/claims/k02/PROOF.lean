import PyProof.Rows.All
import Wide.All
import OpenK.AllK
import Wide.FinOn
import PySem.Challenge.RW_sheetfold_k02_twenty_four_turns
import HandS.ForMost
import KE.DataMinMax
import HandS.ForExc
import HandS.CallSlots
import HandS.ExcInit
import HandS.ExcField
import HandS.TryMany
import HandS.Deep
import HandS.Wide
import HandS.Zip
import HandS.More
import HandS.Conv
import HandS.Rev
import HandS.Strs
import HandS.MapJoin
import HandS.EndBits
import HandS.SetKeys
import KE.SortData
import KE.KDictKeyed
import KE.KDictWalk
import HandS.TupLe
import HandS.TupAny
import HandS.IsInst
import HandS.Iter
import KE.GoesMore
import HandS.DictTup
import KE.KDictCopyH
import HandS.RevTup
import OpenK.KMake
import HandS.HeadWalk
import HandS.HotCalls
import KE.KExcIs
import KE.DataFind
import HandS.ExcBuiltin
import HandS.TryOnly
import HandS.Defaults
import PyProof.ExcBaseAll.ValueError
set_option Elab.async false
set_option linter.all false
set_option autoImplicit false
set_option maxRecDepth 100000
/-! a small language of values: what it computes -/
namespace En
open PySem
abbrev D := PyData
structure Exc where
  cls : Str
  pay : Option (Str × D)
inductive Res (α : Type) where
  | ok (a : α) | ex (x : Exc) | bad
namespace Res
variable {α β : Type}
@[inline] def bind (r : Res α) (f : α → Res β) : Res β := match r with
  | ok a => f a
  | ex x => ex x
  | bad => bad
def map (f : α → β) (r : Res α) : Res β := match r with
  | ok a => ok (f a)
  | ex x => ex x
  | bad => bad
@[simp] theorem bind_ok (a : α) (f : α → Res β) : (ok a).bind f = f a := rfl
@[simp] theorem bind_ex (x : Exc) (f : α → Res β) : (ex x : Res α).bind f = ex x := rfl
@[simp] theorem bind_bad (f : α → Res β) : (bad : Res α).bind f = bad := rfl
@[simp] theorem map_ok (f : α → β) (a : α) : (ok a).map f = ok (f a) := rfl
@[simp] theorem map_ex (f : α → β) (x : Exc) : (ex x : Res α).map f = ex x := rfl
@[simp] theorem map_bad (f : α → β) : (bad : Res α).map f = bad := rfl
/-- where nothing may be raised -/
def noex (r : Res α) : Res α := match r with
  | ex _ => bad
  | r => r
@[simp] theorem noex_ok (a : α) : (ok a).noex = ok a := rfl
@[simp] theorem noex_ex (x : Exc) : (ex x : Res α).noex = bad := rfl
@[simp] theorem noex_bad : (bad : Res α).noex = bad := rfl
def of (o : Option α) : Res α := match o with
  | some a => ok a
  | none => bad
@[simp] theorem of_some (a : α) : of (some a) = ok a := rfl
@[simp] theorem of_none : of (none : Option α) = bad := rfl
/-- what is wanted of either end -/
def post (r : Res α) (Q : α → Prop) (E : Exc → Prop) : Prop := match r with
  | ok a => Q a
  | ex x => E x
  | bad => False
@[simp] theorem post_ok (a : α) (Q : α → Prop) (E : Exc → Prop) : (ok a).post Q E = Q a := rfl
@[simp] theorem post_ex (x : Exc) (Q : α → Prop) (E : Exc → Prop) : (ex x : Res α).post Q E = E x := rfl
@[simp] theorem post_bad (Q : α → Prop) (E : Exc → Prop) : (bad : Res α).post Q E = False := rfl
theorem post_bind (r : Res α) (f : α → Res β) (Q : β → Prop) (E : Exc → Prop) : (r.bind f).post Q E = r.post (fun a => (f a).post Q E) E := by cases r <;> rfl
theorem post_map (r : Res α) (f : α → β) (Q : β → Prop) (E : Exc → Prop) : (r.map f).post Q E = r.post (fun a => Q (f a)) E := by cases r <;> rfl
theorem post_mono {r : Res α} {Q Q' : α → Prop} {E E' : Exc → Prop} (h : r.post Q E) (hq : ∀ a, Q a → Q' a) (he : ∀ x, E x → E' x) : r.post Q' E' := by
  cases r with
  | ok a => exact hq _ h
  | ex x => exact he _ h
  | bad => exact h
theorem post_noex (r : Res α) (Q : α → Prop) (E : Exc → Prop) (h : r.noex.post Q E) : r.post Q fun _ => False := by cases r <;> exact h
theorem post_of (o : Option α) (Q : α → Prop) (E : Exc → Prop) : (of o).post Q E = ∃ a, o = some a ∧ Q a := by cases o <;> simp [of]
end Res
open Res

/-! ## types -/
inductive Md where
  | o | f | r
  deriving DecidableEq, Repr
inductive Ty where
  | I | N (q : Md) (t : Ty)
  deriving DecidableEq, Repr
def ch : Ty → Ty
  | .I => .I
  | .N _ t => t
/-- as it is read -/
def rd : Ty → Ty
  | .I => .I
  | .N .o t => .N .r (rd t)
  | .N .f t => .N .f (rd t)
  | .N .r t => .N .r (rd t)
def mle : Md → Md → Bool
  | .o, _ => true
  | .f, .f => true
  | .f, .r => true
  | .r, .r => true
  | _, _ => false
def sub : Ty → Ty → Bool
  | .I, _ => true
  | .N q t, .N q' t' => mle q q' && sub t t'
  | .N _ _, .I => false
def lub : Ty → Ty → Ty
  | .I, t => t
  | t, .I => t
  | .N q t, .N q' t' => .N (if mle q q' then q' else q) (lub t t')
def lubT (a b : Ty) : Option Ty := if sub a (lub a b) && sub b (lub a b) then some (lub a b) else none
/-- no r within: it lasts -/
def Ty.st : Ty → Bool
  | .I => true
  | .N .r _ => false
  | .N _ t => t.st
/-- no r, no f within -/
def Ty.own : Ty → Bool
  | .I => true
  | .N .o t => t.own
  | .N _ _ => false
/-- frozen all through -/
def Ty.fz : Ty → Bool
  | .I => true
  | .N .f t => t.fz
  | .N _ _ => false
def Ty.no : Ty → Bool
  | .I => true
  | .N .o _ => false
  | .N _ t => t.no

/-! ## data -/
mutual
def imm : D → Bool
  | .none => true
  | .bool _ => true
  | .int _ => true
  | .str _ => true
  | .tuple xs => immAll xs
  | .list _ => false
  | .dict _ => false
def immAll : List D → Bool
  | [] => true
  | x :: xs => imm x && immAll xs
end
/-- python's place in n things -/
abbrev atI {α : Type} (xs : List α) (i : Int) : Option α := L2.atI xs i
abbrev ixN (n : Nat) (i : Int) : Option Nat := L2.ixN n i
def sIx (n d : Nat) (i : Option Int) : Nat := HT.sIx n d i
def cutD {α : Type} (xs : List α) (lo hi : Option Int) : List α := (xs.drop (sIx xs.length 0 lo)).take (sIx xs.length xs.length hi - sIx xs.length 0 lo)
def shp (d : D) : Bool := SeqAt.shaped d
def farN : Nat := 1048576
def smallI (a : Int) : Bool := decide (-18446744073709551616 < a) && decide (a < 18446744073709551616)
def mulOk (a b : Int) : Bool := smallI a || smallI b || (decide (a.natAbs.log2 < farN) && decide (b.natAbs.log2 < farN))
/-- the keys of a dict -/
def keyOf : D → Option L2.Key
  | .int i => some (.inl i)
  | .str s => some (.inr s)
  | _ => none
def keysOf : List D → Option (List L2.Key)
  | [] => some []
  | d :: ds => (keyOf d).bind fun k => (keysOf ds).map (k :: ·)
def dlook (kvs : List (D × D)) (k : D) : Option D := (kvs.find? fun p => PyData.eqv p.1 k).map (·.2)
def dput : List (D × D) → D → D → List (D × D)
  | [], k, v => [(k, v)]
  | p :: r, k, v => if PyData.eqv p.1 k then (p.1, v) :: r else p :: dput r k v
/-- a key that is an int or a text -/
def keyOk : D → Bool
  | .int _ => true
  | .str _ => true
  | _ => false
mutual
/-- a key that is a tuple, nested -/
def nkOf : D → Option NestedKey
  | .none => some .none
  | .int i => some (.num i)
  | .str s => some (.text s)
  | .tuple ds => (nksOf ds).map .tup
  | _ => none
def nksOf : List D → Option (List NestedKey)
  | [] => some []
  | d :: ds => match nkOf d, nksOf ds with
    | some k, some ks => some (k :: ks)
    | _, _ => none
end
def nkT : NestedKey → Bool
  | .tup ks => decide (NestedKey.depthAll ks ≤ 6)
  | _ => false
def keyT (d : D) : Bool := match nkOf d with
  | some k => nkT k
  | none => false
/-- a key that fits a dict's keys -/
def kyOk (kvs : List (D × D)) (k : D) : Bool := (keyOk k && kvs.all fun p => keyOk p.1) || (keyT k && kvs.all fun p => keyT p.1)
/-- sorting -/
def sortD (ds : List D) : List D := ds.mergeSort (W.dataLe false id)
def allAlike (ds : List D) : Bool := ds.all fun a => ds.all fun b => W.alike a b
def tupHd : D → Bool
  | .tuple (_ :: _) => true
  | _ => false
def othHd : D → Bool
  | .tuple _ => false
  | .none => false
  | _ => true
def srtOk (ds : List D) : Bool := allAlike ds && (ds.all tupHd || ds.all othHd) && ds.all fun d => decide (d.depth ≤ 32)
/-- what max and min may look at -/
def mmOk (ds : List D) : Bool := allAlike ds && ds.all (fun d => match d with | .none => false | _ => true) && ds.all fun d => decide (d.depth ≤ 32)
def intsOf : List D → Option (List Int)
  | [] => some []
  | .int i :: ds => (intsOf ds).map (i :: ·)
  | _ => none
def boolsOf : List D → Option (List Bool)
  | [] => some []
  | .bool i :: ds => (boolsOf ds).map (i :: ·)
  | _ => none
def strsOf : List D → Option (List Str)
  | [] => some []
  | .str i :: ds => (strsOf ds).map (i :: ·)
  | _ => none
def rgN (a b c : Int) : Nat := (Builtin.Range.rangeSize a b c).toNat
def rangeD (a b c : Int) : List D := (List.range (rgN a b c)).map fun i => .int (a + (i : Nat) * c)
def rgOk (a b c : Int) : Bool := decide (-(2 ^ 62) ≤ a) && decide (a < 2 ^ 62) && decide (-(2 ^ 62) ≤ b) && decide (b < 2 ^ 62) && decide (c ≠ 0) && decide (c.natAbs < 1000000) && decide (rgN a b c ≤ 2 ^ 24)
def maxI : List Int → Option Int
  | [] => none
  | x :: xs => some (xs.foldl (fun m y => if y > m then y else m) x)
def minI : List Int → Option Int
  | [] => none
  | x :: xs => some (xs.foldl (fun m y => if y < m then y else m) x)
inductive Kd where
  | int | bool | tup | list | str | dict
  deriving DecidableEq, Repr
def isKd : Kd → D → Bool
  | .int, .int _ => true
  | .int, .bool _ => true
  | .bool, .bool _ => true
  | .tup, .tuple _ => true
  | .list, .list _ => true
  | .str, .str _ => true
  | .dict, .dict _ => true
  | _, _ => false

/-- a dict with tuples as keys -/
def dictT : D → Bool
  | .dict kvs => !kvs.all fun p => keyOk p.1
  | _ => false
/-! ## operations -/
inductive Op where
  | add | sub | mul | fdiv | mod | pow | neg
  | eq | ne | lt | le | gt | ge | isN | notN | ltD
  | len | ixL | ixT | ixD | inn (neg : Bool) | inD (neg : Bool)
  | slL (a b : Bool) | slT (a b : Bool)
  | listL | listT | listR | revL | tupL | tupT | tupR
  | catL | catT | catS
  | srt | srtK | max2 | min2 | mx2D | mn2D | mxLD | mnLD | mnLN | maxL | minL | sumL | absI | intB | allL
  | isK (k : Kd) | idx | cnt | dget1 | dget2
  deriving DecidableEq, Repr
def optI (has : Bool) (ds : List D) : Option (Option Int × List D) :=
  if has then match ds with
    | .int i :: r => some (some i, r)
    | _ => none
  else some (none, ds)
def cutArgs (a b : Bool) (ds : List D) : Option (Option Int × Option Int) :=
  match optI a ds with
  | some (lo, r) => match optI b r with
    | some (hi, []) => some (lo, hi)
    | _ => none
  | none => none
def isNon : D → Bool
  | .none => true
  | _ => false
def iD (f : Int → Int → D) : List D → Option D
  | [.int a, .int b] => some (f a b)
  | _ => none
def iDc (c : Int → Int → Bool) (f : Int → Int → D) : List D → Option D
  | [.int a, .int b] => if c a b then some (f a b) else none
  | _ => none
def opv : Op → List D → Option D
  | .add => iD fun a b => .int (a + b)
  | .sub => iD fun a b => .int (a - b)
  | .mul => iDc mulOk fun a b => .int (a * b)
  | .fdiv => iDc (fun _ b => decide (0 < b) && decide (b.natAbs.log2 < 9000)) fun a b => .int (a / b)
  | .mod => iDc (fun _ b => decide (0 < b)) fun a b => .int (a % b)
  | .pow => iDc (fun a b => decide (0 ≤ b) && decide (b ≤ 1000000) && decide (a.natAbs < 2 ^ 64)) fun a b => .int (a ^ b.toNat)
  | .neg => fun ds => match ds with
    | [.int a] => some (.int (-a))
    | _ => none
  | .eq => fun ds => match ds with
    | [a, b] => if shp a && shp b then some (.bool (PyData.eqv a b)) else none
    | _ => none
  | .ne => fun ds => match ds with
    | [a, b] => if shp a && shp b then some (.bool (!PyData.eqv a b)) else none
    | _ => none
  | .lt => iD fun a b => .bool (decide (a < b))
  | .le => iD fun a b => .bool (decide (a ≤ b))
  | .gt => iD fun a b => .bool (decide (b < a))
  | .ge => iD fun a b => .bool (decide (b ≤ a))
  | .isN => fun ds => match ds with
    | [a, .none] => some (.bool (isNon a))
    | [.bool a, .bool b] => some (.bool (decide (a = b)))
    | _ => none
  | .notN => fun ds => match ds with
    | [a, .none] => some (.bool (!isNon a))
    | [.bool a, .bool b] => some (.bool (!decide (a = b)))
    | _ => none
  | .len => fun ds => match ds with
    | [.list xs] => some (.int xs.length)
    | [.tuple xs] => some (.int xs.length)
    | [.dict kvs] => if dictT (.dict kvs) then none else some (.int kvs.length)
    | _ => none
  | .ixL => fun ds => match ds with
    | [.list xs, .int i] => atI xs i
    | _ => none
  | .ixT => fun ds => match ds with
    | [.tuple xs, .int i] => atI xs i
    | _ => none
  | .ixD => fun ds => match ds with
    | [.dict kvs, k] => if kyOk kvs k then dlook kvs k else none
    | _ => none
  | .inn neg => fun ds => match ds with
    | [d, .list xs] => if shp d && shp (.list xs) then some (.bool (neg ^^ xs.any fun z => PyData.eqv z d)) else none
    | [d, .tuple xs] => if shp d && shp (.tuple xs) then some (.bool (neg ^^ xs.any fun z => PyData.eqv z d)) else none
    | _ => none
  | .inD neg => fun ds => match ds with
    | [k, .dict kvs] => if kyOk kvs k then some (.bool (neg ^^ (dlook kvs k).isSome)) else none
    | _ => none
  | .slL a b => fun ds => match ds with
    | .list xs :: r => (cutArgs a b r).map fun p => .list (cutD xs p.1 p.2)
    | _ => none
  | .slT a b => fun ds => match ds with
    | .tuple xs :: r => (cutArgs a b r).map fun p => .tuple (cutD xs p.1 p.2)
    | _ => none
  | .listL => fun ds => match ds with
    | [.list xs] => some (.list xs)
    | _ => none
  | .listT => fun ds => match ds with
    | [.tuple xs] => some (.list xs)
    | _ => none
  | .revL => fun ds => match ds with
    | [.list xs] => some (.list xs.reverse)
    | _ => none
  | .listR => fun ds => match ds with
    | [.int n] => if rgOk 0 n 1 then some (.list (rangeD 0 n 1)) else none
    | _ => none
  | .tupL => fun ds => match ds with
    | [.list xs] => some (.tuple xs)
    | _ => none
  | .tupT => fun ds => match ds with
    | [.tuple xs] => some (.tuple xs)
    | _ => none
  | .tupR => fun ds => match ds with
    | [.int n] => if rgOk 0 n 1 then some (.tuple (rangeD 0 n 1)) else none
    | _ => none
  | .catL => fun ds => match ds with
    | [.list xs, .list ys] => if xs.length + ys.length ≤ sizeLine then some (.list (xs ++ ys)) else none
    | _ => none
  | .catT => fun ds => match ds with
    | [.tuple xs, .tuple ys] => if xs.length + ys.length ≤ sizeLine then some (.tuple (xs ++ ys)) else none
    | _ => none
  | .catS => fun ds => match ds with
    | [.str x, .str y] => if x.length + y.length ≤ sizeLine then some (.str (x ++ y)) else none
    | _ => none
  | .srt => fun ds => match ds with
    | [.list xs] => if srtOk xs then some (.list (sortD xs)) else none
    | _ => none
  | .srtK => fun ds => match ds with
    | [.dict kvs] => if srtOk (kvs.map (·.1)) then some (.list (sortD (kvs.map (·.1)))) else none
    | _ => none
  | .ltD => fun ds => match ds with
    | [a, b] => if mmOk [a, b] then some (.bool (W.dataLt a b)) else none
    | _ => none
  | .mx2D => fun ds => match ds with
    | [a, b] => if mmOk [a, b] then some (if W.dataLt a b then b else a) else none
    | _ => none
  | .mn2D => fun ds => match ds with
    | [a, b] => if mmOk [a, b] then some (if W.dataLt b a then b else a) else none
    | _ => none
  | .mxLD => fun ds => match ds with
    | [.list (x :: xs)] => if mmOk (x :: xs) then some (W.maxD x xs) else none
    | _ => none
  | .mnLD => fun ds => match ds with
    | [.list (x :: xs)] => if mmOk (x :: xs) then some (W.minD x xs) else none
    | _ => none
  | .mnLN => fun ds => match ds with
    | [.list []] => some .none
    | [.list (x :: xs)] => if mmOk (x :: xs) then some (W.minD x xs) else none
    | _ => none
  | .max2 => fun ds => match ds with
    | [.int a, .int b] => some (.int (if b > a then b else a))
    | _ => none
  | .min2 => fun ds => match ds with
    | [.int a, .int b] => some (.int (if b < a then b else a))
    | _ => none
  | .maxL => fun ds => match ds with
    | [.list xs] => ((intsOf xs).bind maxI).map .int
    | _ => none
  | .minL => fun ds => match ds with
    | [.list xs] => ((intsOf xs).bind minI).map .int
    | _ => none
  | .sumL => fun ds => match ds with
    | [.list xs] => (intsOf xs).map fun ns => .int ns.sum
    | _ => none
  | .absI => fun ds => match ds with
    | [.int a] => some (.int (if a < 0 then -a else a))
    | _ => none
  | .intB => fun ds => match ds with
    | [.bool b] => some (.int (if b then 1 else 0))
    | [.int b] => some (.int b)
    | _ => none
  | .allL => fun ds => match ds with
    | [.list xs] => (boolsOf xs).map fun bs => .bool (bs.all id)
    | _ => none
  | .isK k => fun ds => match ds with
    | [d] => if dictT d then none else some (.bool (isKd k d))
    | _ => none
  | .idx => fun ds => match ds with
    | [.list xs, d] => if shp d && shp (.list xs) then (xs.findIdx? fun z => PyData.eqv z d).map (fun (j : Nat) => PyData.int (j : Int)) else none
    | _ => none
  | .cnt => fun ds => match ds with
    | [.list xs, d] => if shp d && shp (.list xs) then some (.int (xs.countP fun z => PyData.eqv z d)) else none
    | _ => none
  | .dget1 => fun ds => match ds with
    | [.dict kvs, k] => if kyOk kvs k then some ((dlook kvs k).getD .none) else none
    | _ => none
  | .dget2 => fun ds => match ds with
    | [.dict kvs, k, z] => if kyOk kvs k then some ((dlook kvs k).getD z) else none
    | _ => none
/-- an operation's type -/
def opT : Op → List Ty → Option Ty
  | .ixL, [t, _] => some (ch (rd t))
  | .ixD, [t, _] => some (ch (rd t))
  | .ixT, [t, _] => some (rd t)
  | .slL _ _, t :: _ => some (.N .o (ch (rd t)))
  | .slT _ _, t :: _ => some (rd t)
  | .listL, [t] => some (.N .o (ch (rd t)))
  | .listT, [t] => some (.N .o (rd t))
  | .listR, [_] => some (.N .o .I)
  | .revL, [t] => some (.N .o (ch (rd t)))
  | .tupL, [t] => some (ch (rd t))
  | .tupT, [t] => some (rd t)
  | .tupR, [_] => some .I
  | .catL, [t, u] => (lubT (ch (rd t)) (ch (rd u))).map (.N .o)
  | .catT, [t, u] => lubT (rd t) (rd u)
  | .srt, [t] => some (.N .o (ch (rd t)))
  | .srtK, [_] => some (.N .o .I)
  | .mx2D, [t, u] => lubT (rd t) (rd u)
  | .mn2D, [t, u] => lubT (rd t) (rd u)
  | .mxLD, [t] => some (ch (rd t))
  | .mnLD, [t] => some (ch (rd t))
  | .mnLN, [t] => some (ch (rd t))
  | .dget1, [t, _] => some (ch (rd t))
  | .dget2, [t, _, u] => lubT (ch (rd t)) (rd u)
  | .ixL, _ | .ixD, _ | .ixT, _ | .slL _ _, _ | .slT _ _, _ | .listL, _ | .listT, _ | .listR, _ | .revL, _ | .tupL, _ | .tupT, _ | .tupR, _ | .catL, _ | .catT, _ | .srt, _ | .srtK, _ | .mx2D, _ | .mn2D, _ | .mxLD, _ | .mnLD, _ | .mnLN, _ | .dget1, _ | .dget2, _ => none
  | _, _ => some .I

/-! ## the small language -/
inductive Tg where
  | s (i : Nat) | t (is : List Nat)
  deriving DecidableEq, Repr
inductive Kt where
  | non | bool (b : Bool) | int (i : Int) | str (s : Str)
  deriving DecidableEq, Repr
def Kt.d : Kt → D
  | .non => .none
  | .bool b => .bool b
  | .int i => .int i
  | .str s => .str s
mutual
inductive E where
  | v (i : Nat)
  | mv (i : Nat)
  | k (c : Kt)
  | g (j : Nat)
  | tup (es : Es)
  | lst (es : Es)
  /-- a tuple of the es and, at p, of what slot i has, moved out behind them -/
  | tupM (p i : Nat) (es : Es)
  | dnew
  /-- a dict of one pair -/
  | dlit (k v : E)
  /-- a field of an own exception that is made -/
  | xmk (cls fld : Str) (e : E)
  | op (o : Op) (es : Es)
  | meth (k : Kd) (o : Op) (e : E) (es : Es)
  | call (j : Nat) (es : Es) (ds : List Kt)
  /-- join_of(e).led(..) -/
  | led (j : Nat) (e : E) (es : Es)
  | and (a b : E)
  | or (a b : E)
  | not (a : E)
  | ite (c a b : E)
  | chain (o o' : Op) (a b c : E)
  | chain3 (o o' o3 : Op) (a b c d : E)
  | sl2 (t : Bool) (a b c : E)
  | lc (it : It) (tg : Tg) (cond : E) (el : E)
  | lcR (it : Bool) (i : Nat) (tg : Tg) (cond : E) (el : E)
  | imm (e : E)
  | co (t : Ty) (e : E)
inductive Es where
  | nil | cons (e : E) (es : Es)
inductive It where
  | lst (e : E) | tup (e : E) | keys (e : E) | items (e : E)
  | rng (es : Es) | enum (e : E) | zipL (es : Es) | zipT (es : Es)
end
inductive Mu where
  | app | ext | ins | clr
  deriving DecidableEq, Repr
/-! ### what is said of an exception in hand: expressions, blocks -/
mutual
inductive XE where
  | k (t : Kt) | v (i : Nat) | isa (ns yes no : List Str) | fld (f : Str) | tup (es : XEs) | and (a b : XE) | or (a b : XE) | not (a : XE) | eq (a b : XE) | isK (k : Kd) (a : XE)
  deriving DecidableEq
inductive XEs where
  | nil | cons (e : XE) (es : XEs)
  deriving DecidableEq
end
inductive XB where
  | nil
  | set (j : Nat) (e : XE) (b : XB)
  | setL (j : Nat) (es : XEs) (b : XB)
  | setC (j : Nat) (f : Str) (n : Nat) (fb : XB) (b : XB)
  | setLC (j : Nat) (e1 : XE) (f : Str) (n : Nat) (fb : XB) (e2 : XE) (b : XB)
  | ret (e : XE)
  | retL (es : XEs)
  | ite (t : XE) (a b : XB)
  deriving DecidableEq
mutual
inductive S where
  | set (tg : Tg) (e : E)
  | mu (m : Mu) (i : Nat) (path : Es) (es : Es)
  | sub (i : Nat) (path : Es) (ix : E) (e : E)
  | dsub (i : Nat) (path : Es) (ix : E) (e : E)
  | popAt (j : Nat) (i : Nat) (es : Es)
  | popX (i : Nat) (es : Es)
  | sdapp (nw : Bool) (i : Nat) (k : E) (e : E)
  | ite (c : E) (a b : B) (clr : List Nat)
  | for (it : It) (tg : Tg) (b : B) (clr : List Nat)
  | forE (e : E) (tg : Tg) (b : B) (clr : List Nat)
  | forR (it : Bool) (i : Nat) (tg : Tg) (b : B) (clr : List Nat)
  /-- an own list in slot i, walked; the body keeps the slot -/
  | forO (i : Nat) (tg : Tg) (b : B) (cl : List Nat)
  | while (n : Nat) (c : E) (b : B) (clr : List Nat)
  | ret (e : E)
  | expr (e : E)
  | co (i : Nat) (t : Ty)
  | brk
  /-- a statement that is never come to -/
  | unr
  /-- an own exception, made of a text -/
  | raise (cls : Str)
  /-- an own exception with a field -/
  | raiseW (cls fld : Str) (e : E)
  /-- slot i names what is caught; yes, no: the classes that are caught, that pass -/
  | try (b : B) (i : Nat) (yes no : List Str) (h : XB) (clr : List Nat)
  /-- a try whose except clause returns a constant -/
  | tryR (b : B) (yes no : List Str) (k : Kt)
  /-- a, b = x, y -/
  | par (i j : Nat) (es : Es)
  /-- a call of a def that changes its parameter p, handed slot i; es: the others -/
  | callM (j p i : Nat) (es : Es)
inductive B where
  | nil | cons (s : S) (b : B)
end
abbrev Env := List D
abbrev Fun := List D → Res D
inductive Fl where
  | nx (ρ : Env) | rt (d : D) | bk (ρ : Env) | ex (x : Exc) | bad
/-- the context of a body: what it calls, the constants it reads -/
structure Cg where
  fs : List Fun
  gs : List D
  /-- defs that change a parameter: what it has at the end -/
  ms : List Fun
def setTg : Tg → D → Env → Option Env
  | .s i, d, ρ => some (ρ.set i d)
  | .t is, .tuple ds, ρ => if ds.length = is.length then some ((is.zip ds).foldl (fun ρ p => ρ.set p.1 p.2) ρ) else none
  | .t _, _, _ => none
def clear (cl : List Nat) (ρ : Env) : Env := cl.foldl (fun ρ i => ρ.set i .none) ρ
def zipD : List (List D) → List D
  | [xs, ys] => (xs.zip ys).map fun p => .tuple [p.1, p.2]
  | [xs, ys, zs] => (xs.zip (ys.zip zs)).map fun p => .tuple [p.1, p.2.1, p.2.2]
  | _ => []
def listsOf : List D → Option (List (List D))
  | [] => some []
  | .list xs :: ds => (listsOf ds).map (xs :: ·)
  | _ => none
def tupsOf : List D → Option (List (List D))
  | [] => some []
  | .tuple xs :: ds => (tupsOf ds).map (xs :: ·)
  | _ => none
def enumD (xs : List D) : List D := (xs.zipIdx).map fun p => .tuple [.int p.2, p.1]
def toB : D → Res Bool
  | .bool b => .ok b
  | _ => .bad
def toI : D → Res Int
  | .int i => .ok i
  | _ => .bad
def callD (fs : List Fun) (j : Nat) (ds : List D) : Res D := match fs[j]? with
  | some f => f ds
  | none => .bad
def lcD (f : D → Res (Option D)) : List D → Res (List D)
  | [] => .ok []
  | d :: ds => (f d).bind fun o => (lcD f ds).bind fun r => .ok (match o with | some y => y :: r | none => r)
/-- a dict's rows -/
def rowsD (it : Bool) : D → Res (List D)
  | .dict kvs => .ok (if it then kvs.map fun p => .tuple [p.1, p.2] else kvs.map (·.1))
  | _ => .bad
def ins {α : Type} (p : Nat) (x : α) (l : List α) : List α := l.take p ++ x :: l.drop p
mutual
def ev (c : Cg) : E → Env → Res D
  | .v i, ρ => .ok (ρ.getD i .none)
  | .mv i, ρ => .ok (ρ.getD i .none)
  | .k t, _ => .ok t.d
  | .g j, _ => .of c.gs[j]?
  | .tup es, ρ => (evs c es ρ).map .tuple
  | .lst es, ρ => (evs c es ρ).map .list
  | .tupM p i es, ρ => (evs c es ρ).map fun ds => .tuple (ins p (ρ.getD i .none) ds)
  | .dnew, _ => .ok (.dict [])
  | .dlit a b, ρ => (ev c a ρ).bind fun k => if keyOk k then (ev c b ρ).bind fun v => .ok (.dict [(k, v)]) else .bad
  | .xmk _ _ e, ρ => ev c e ρ
  | .op o es, ρ => (evs c es ρ).bind fun ds => .of (opv o ds)
  | .meth k o e es, ρ => (ev c e ρ).bind fun d => if isKd k d then (evs c es ρ).bind fun ds => .of (opv o (d :: ds)) else .bad
  | .call j es ks, ρ => (evs c es ρ).bind fun ds => callD c.fs j (ds ++ ks.map Kt.d)
  | .led j e es, ρ => (ev c e ρ).bind fun b => (evs c es ρ).noex.bind fun ds => (callD c.fs j (b :: ds)).noex
  | .and a b, ρ => (ev c a ρ).bind fun d => (toB d).bind fun x => if x then ev c b ρ else .ok (.bool false)
  | .or a b, ρ => (ev c a ρ).bind fun d => (toB d).bind fun x => if x then .ok (.bool true) else ev c b ρ
  | .not a, ρ => (ev c a ρ).bind fun d => (toB d).bind fun x => .ok (.bool !x)
  | .ite t a b, ρ => ((ev c t ρ).bind toB).bind fun x => if x then ev c a ρ else ev c b ρ
  | .chain o o' a b e, ρ => (ev c a ρ).bind fun x => (ev c b ρ).bind fun y => (Res.of (opv o [x, y])).bind fun z => (toB z).bind fun t =>
      if t then (ev c e ρ).bind fun w => .of (opv o' [y, w]) else .ok (.bool false)
  | .chain3 o o' o3 a b e d, ρ => (ev c a ρ).bind fun x => (ev c b ρ).bind fun y => (Res.of (opv o [x, y])).bind fun z => (toB z).bind fun t =>
    if t then (ev c e ρ).bind fun w => (Res.of (opv o' [y, w])).bind fun z' => (toB z').bind fun t' => if t' then (ev c d ρ).bind fun u => .of (opv o3 [w, u]) else .ok (.bool false) else .ok (.bool false)
  | .sl2 t a b e, ρ => (ev c a ρ).bind fun x => (ev c b ρ).bind fun y => (toI y).bind fun i => (ev c e ρ).bind fun w => (toI w).bind fun j => match t, x with
      | false, .list xs => .ok (.list (cutD xs (some i) (some j)))
      | true, .tuple xs => .ok (.tuple (cutD xs (some i) (some j)))
      | _, _ => .bad
  | .lc it tg cond el, ρ => (evI c it ρ).bind fun ds => (lcD (fun d => (Res.of (setTg tg d ρ)).bind fun ρ' => ((ev c cond ρ').bind toB).noex.bind fun x => if x then (ev c el ρ').noex.map some else .ok none) ds).map .list
  | .lcR it i tg cond el, ρ => (rowsD it (ρ.getD i .none)).bind fun ds => (lcD (fun d => (Res.of (setTg tg d ρ)).bind fun ρ' => ((ev c cond ρ').bind toB).noex.bind fun x => if x then (ev c el ρ').noex.map some else .ok none) ds).map .list
  | .imm e, ρ => (ev c e ρ).bind fun d => if imm d then .ok d else .bad
  | .co _ e, ρ => ev c e ρ
def evs (c : Cg) : Es → Env → Res (List D)
  | .nil, _ => .ok []
  | .cons e es, ρ => (ev c e ρ).bind fun d => (evs c es ρ).bind fun ds => .ok (d :: ds)
def evI (c : Cg) : It → Env → Res (List D)
  | .lst e, ρ => (ev c e ρ).bind fun d => match d with
    | .list xs => .ok xs
    | _ => .bad
  | .tup e, ρ => (ev c e ρ).bind fun d => match d with
    | .tuple xs => .ok xs
    | _ => .bad
  | .keys e, ρ => (ev c e ρ).bind fun d => match d with
    | .dict kvs => .ok (kvs.map (·.1))
    | _ => .bad
  | .items e, ρ => (ev c e ρ).bind fun d => match d with
    | .dict kvs => .ok (kvs.map fun p => .tuple [p.1, p.2])
    | _ => .bad
  | .rng es, ρ => (evs c es ρ).bind fun ds => match ds with
    | [.int b] => if rgOk 0 b 1 then .ok (rangeD 0 b 1) else .bad
    | [.int a, .int b] => if rgOk a b 1 then .ok (rangeD a b 1) else .bad
    | [.int a, .int b, .int s] => if rgOk a b s then .ok (rangeD a b s) else .bad
    | _ => .bad
  | .enum e, ρ => (ev c e ρ).bind fun d => match d with
    | .list xs => .ok (enumD xs)
    | _ => .bad
  | .zipL es, ρ => (evs c es ρ).bind fun ds => (Res.of (listsOf ds)).bind fun xss => .ok (zipD xss)
  | .zipT es, ρ => (evs c es ρ).bind fun ds => (Res.of (tupsOf ds)).bind fun xss => .ok (zipD xss)
end
/-- what lies at the end of a path -/
def getAt : List D → D → Option D
  | [], d => some d
  | .int i :: p, .list xs => (ixN xs.length i).bind fun j => (xs[j]?).bind fun x => getAt p x
  | .tuple [.int i] :: p, .tuple xs => (ixN xs.length i).bind fun j => (xs[j]?).bind fun x => getAt p x
  | _, _ => none
/-- a change at the end of a path -/
def updAt (f : D → Option D) : List D → D → Option D
  | [], d => f d
  | .int i :: p, .list xs => (ixN xs.length i).bind fun j => (xs[j]?).bind fun x => (updAt f p x).map fun y => .list (xs.set j y)
  | .tuple [.int i] :: p, .tuple xs => (ixN xs.length i).bind fun j => (xs[j]?).bind fun x => (updAt f p x).map fun y => .tuple (xs.set j y)
  | _, _ => none
/-- what a step of a path goes through: true a list, false a tuple -/
def shK : D → Bool
  | .tuple _ => false
  | _ => true
/-- a step of a path: whether it goes through a list, its index -/
def stepE : E → Bool × E
  | .tup (.cons e .nil) => (false, e)
  | e => (true, e)
/-- the steps of a path, by the tree -/
def Es.sh : Es → List Bool
  | .nil => []
  | .cons e es => (stepE e).1 :: es.sh
def muv : Mu → List D → D → Option D
  | .app, [y], .list xs => if xs.length < sizeLine then some (.list (xs ++ [y])) else none
  | .ext, [.list ys], .list xs => if xs.length + ys.length ≤ sizeLine then some (.list (xs ++ ys)) else none
  | .ins, [.int i, y], .list xs => if 0 ≤ i ∧ i < 2 ^ 63 ∧ xs.length < sizeLine then some (.list (xs.take i.toNat ++ y :: xs.drop i.toNat)) else none
  | .clr, [], .list _ => some (.list [])
  | _, _, _ => none
def subv (k y : D) : D → Option D
  | .list xs => match k with
    | .int i => (ixN xs.length i).map fun j => .list (xs.set j y)
    | _ => none
  | .dict kvs => if kyOk kvs k = true ∧ kvs.length < sizeLine then some (.dict (dput kvs k y)) else none
  | _ => none
/-- d.setdefault(k, []).append(y); d[k].append(y) where nw is false -/
def sdOk (nw : Bool) (k : D) : D → Bool
  | .dict kvs => kyOk kvs k && decide (kvs.length < sizeLine) && match dlook kvs k with
    | none => nw
    | some (.list xs) => decide (xs.length < sizeLine)
    | some _ => false
  | _ => false
def sdv (k y : D) : D → Option D
  | .dict kvs => match dlook kvs k with
    | none => some (.dict (dput kvs k (.list [y])))
    | some (.list xs) => some (.dict (dput kvs k (.list (xs ++ [y]))))
    | some _ => none
  | _ => none
def popv : List D → D → Option (D × D)
  | [], .list xs => if xs = [] then none else (xs.getLast?).map fun y => (y, .list xs.dropLast)
  | [.int i], .list xs => if -(2 ^ 63) ≤ i ∧ i < 2 ^ 63 then (ixN xs.length i).bind fun j => (xs[j]?).map fun y => (y, .list (xs.eraseIdx j)) else none
  | _, _ => none
def Res.fl {α : Type} (r : Res α) (f : α → Fl) : Fl := match r with
  | .ok a => f a
  | .ex x => .ex x
  | .bad => .bad
@[simp] theorem Res.fl_ok {α : Type} (a : α) (f : α → Fl) : (Res.ok a).fl f = f a := rfl
@[simp] theorem Res.fl_ex {α : Type} (x : Exc) (f : α → Fl) : (Res.ex x : Res α).fl f = .ex x := rfl
@[simp] theorem Res.fl_bad {α : Type} (f : α → Fl) : (Res.bad : Res α).fl f = .bad := rfl
def loopK (body : Fl) (rest : Env → Fl) (cl : List Nat) : Fl := match body with
  | .nx ρ2 => rest (clear cl ρ2)
  | .bk ρ2 => .nx (clear cl ρ2)
  | .rt d => .rt d
  | .ex x => .ex x
  | .bad => .bad
@[simp] theorem loopK_nx (ρ : Env) (r : Env → Fl) (cl : List Nat) : loopK (.nx ρ) r cl = r (clear cl ρ) := rfl
@[simp] theorem loopK_bk (ρ : Env) (r : Env → Fl) (cl : List Nat) : loopK (.bk ρ) r cl = .nx (clear cl ρ) := rfl
@[simp] theorem loopK_rt (d : D) (r : Env → Fl) (cl : List Nat) : loopK (.rt d) r cl = .rt d := rfl
@[simp] theorem loopK_ex (x : Exc) (r : Env → Fl) (cl : List Nat) : loopK (.ex x) r cl = .ex x := rfl
@[simp] theorem loopK_bad (r : Env → Fl) (cl : List Nat) : loopK .bad r cl = .bad := rfl
def forX (body : Env → Fl) (tg : Tg) (cl : List Nat) : List D → Env → Fl
  | [], ρ => .nx ρ
  | d :: ds, ρ => (Res.of (setTg tg d ρ)).fl fun ρ1 => loopK (body ρ1) (forX body tg cl ds) cl
def lenO : D → Nat
  | .list ds => ds.length
  | _ => 0
def forOX (b : Env → Fl) (tg : Tg) (cl : List Nat) (i : Nat) : Nat → Nat → Env → Fl
  | 0, k, ρ => match ρ.getD i .none with
    | .list ds => if ds.length ≤ k then .nx ρ else .bad
    | _ => .bad
  | n + 1, k, ρ => match ρ.getD i .none with
    | .list ds => match ds[k]? with
      | none => .nx ρ
      | some d => (Res.of (setTg tg d ρ)).fl fun ρ1 => loopK (b ρ1) (forOX b tg cl i n (k + 1)) cl
    | _ => .bad
def whileX (test : Env → Res Bool) (body : Env → Fl) (cl : List Nat) : Nat → Env → Fl
  | 0, _ => .bad
  | n + 1, ρ => (test ρ).fl fun b => if b then loopK (body ρ) (whileX test body cl n) cl else .nx ρ
def Fl.then (r : Fl) (f : Env → Fl) : Fl := match r with
  | .nx ρ => f ρ
  | .rt d => .rt d
  | .bk ρ => .bk ρ
  | .ex x => .ex x
  | .bad => .bad
@[simp] theorem Fl.then_nx (ρ : Env) (f : Env → Fl) : (Fl.nx ρ).then f = f ρ := rfl
@[simp] theorem Fl.then_rt (d : D) (f : Env → Fl) : (Fl.rt d).then f = .rt d := rfl
@[simp] theorem Fl.then_bk (ρ : Env) (f : Env → Fl) : (Fl.bk ρ).then f = .bk ρ := rfl
@[simp] theorem Fl.then_ex (x : Exc) (f : Env → Fl) : (Fl.ex x).then f = .ex x := rfl
@[simp] theorem Fl.then_bad (f : Env → Fl) : Fl.bad.then f = .bad := rfl
def Fl.noex (r : Fl) : Fl := match r with
  | .ex _ => .bad
  | r => r
@[simp] theorem Fl.noex_nx (ρ : Env) : (Fl.nx ρ).noex = .nx ρ := rfl
@[simp] theorem Fl.noex_rt (d : D) : (Fl.rt d).noex = .rt d := rfl
@[simp] theorem Fl.noex_bk (ρ : Env) : (Fl.bk ρ).noex = .bk ρ := rfl
/-! ### the exception in hand -/
mutual
def xev (x : Exc) : XE → Env → Option D
  | .k t, _ => some t.d
  | .v i, ρ => if imm (ρ.getD i .none) then some (ρ.getD i .none) else none
  | .isa _ yes no, _ => if x.cls ∈ yes then some (.bool true) else if x.cls ∈ no then some (.bool false) else none
  | .fld f, _ => match x.pay with
    | some (g, d) => if g = f ∧ imm d = true then some d else none
    | none => none
  | .tup es, ρ => (xevs x es ρ).map .tuple
  | .and a b, ρ => (xev x a ρ).bind fun d => match d with
    | .bool true => xev x b ρ
    | .bool false => some (.bool false)
    | _ => none
  | .or a b, ρ => (xev x a ρ).bind fun d => match d with
    | .bool true => some (.bool true)
    | .bool false => xev x b ρ
    | _ => none
  | .not a, ρ => (xev x a ρ).bind fun d => match d with
    | .bool b => some (.bool !b)
    | _ => none
  | .eq a b, ρ => (xev x a ρ).bind fun d => (xev x b ρ).bind fun e => opv .eq [d, e]
  | .isK k a, ρ => (xev x a ρ).bind fun d => opv (.isK k) [d]
def xevs (x : Exc) : XEs → Env → Option (List D)
  | .nil, _ => some []
  | .cons e es, ρ => (xev x e ρ).bind fun d => (xevs x es ρ).bind fun ds => some (d :: ds)
end
inductive XFl where
  | nx (ρ : Env) | rt (d : D) | bad
def XFl.go (r : XFl) (f : Env → XFl) : XFl := match r with
  | .nx ρ => f ρ
  | r => r
def xrun (x : Exc) : XB → Env → XFl
  | .nil, ρ => .nx ρ
  | .set j e b, ρ => match xev x e ρ with
    | some d => xrun x b (ρ.set j d)
    | none => .bad
  | .setL j es b, ρ => match xevs x es ρ with
    | some ds => xrun x b (ρ.set j (.list ds))
    | none => .bad
  | .setC j _ n fb b, ρ => match xrun x fb (List.replicate n .none) with
    | .rt d => xrun x b (ρ.set j d)
    | _ => .bad
  | .setLC j e1 _ n fb e2 b, ρ => match xev x e1 ρ with
    | some d1 => match xrun x fb (List.replicate n .none) with
      | .rt d2 => match xev x e2 ρ with
        | some d3 => xrun x b (ρ.set j (.list [d1, d2, d3]))
        | none => .bad
      | _ => .bad
    | none => .bad
  | .ret e, ρ => match xev x e ρ with
    | some d => .rt d
    | none => .bad
  | .retL es, ρ => match xevs x es ρ with
    | some ds => .rt (.list ds)
    | none => .bad
  | .ite t a b, ρ => match xev x t ρ with
    | some (.bool true) => (xrun x a ρ).go (xrun x b)
    | some (.bool false) => xrun x b ρ
    | _ => .bad
def XFl.fl : XFl → Fl
  | .nx ρ => .nx ρ
  | _ => .bad
/-- behind a try's block: what is caught goes to the suite, from the slots as they were -/
def catchX (yes no : List Str) (h : Exc → Fl) : Fl → Fl
  | .ex x => if x.cls ∈ yes then h x else if x.cls ∈ no then .ex x else .bad
  | r => r
mutual
def exec (c : Cg) : S → Env → Fl
  | .set tg e, ρ => (ev c e ρ).fl fun d => (Res.of (setTg tg d ρ)).fl .nx
  | .mu m i p es, ρ => (evs c p ρ).noex.fl fun ks => if ks.map shK = p.sh then (Res.of (getAt ks (ρ.getD i .none))).fl fun d0 => if isKd .list d0 then (evs c es ρ).fl fun ds => (Res.of (updAt (muv m ds) ks (ρ.getD i .none))).fl fun d => .nx (ρ.set i d) else .bad else .bad
  | .sub i p ix e, ρ => (ev c e ρ).fl fun y => (evs c p ρ).noex.fl fun ks => if ks.map shK = p.sh then (Res.of (getAt ks (ρ.getD i .none))).fl fun d0 => if isKd .list d0 then (ev c ix ρ).fl fun k => (Res.of (updAt (subv k y) ks (ρ.getD i .none))).fl fun d => .nx (ρ.set i d) else .bad else .bad
  | .dsub i p ix e, ρ => (ev c e ρ).fl fun y => (evs c p ρ).noex.fl fun ks => if ks.map shK = p.sh then (Res.of (getAt ks (ρ.getD i .none))).fl fun d0 => if isKd .dict d0 then (ev c ix ρ).fl fun k => (Res.of (updAt (subv k y) ks (ρ.getD i .none))).fl fun d => .nx (ρ.set i d) else .bad else .bad
  | .popAt j i es, ρ => if isKd .list (ρ.getD i .none) then (evs c es ρ).fl fun ds => (Res.of (popv ds (ρ.getD i .none))).fl fun p => .nx ((ρ.set i p.2).set j p.1) else .bad
  | .popX i es, ρ => if isKd .list (ρ.getD i .none) then (evs c es ρ).fl fun ds => (Res.of (popv ds (ρ.getD i .none))).fl fun p => .nx (ρ.set i p.2) else .bad
  | .sdapp nw i k e, ρ => if isKd .dict (ρ.getD i .none) then (ev c k ρ).fl fun kd => if sdOk nw kd (ρ.getD i .none) then (ev c e ρ).noex.fl fun y => (Res.of (sdv kd y (ρ.getD i .none))).fl fun d => .nx (ρ.set i d) else .bad else .bad
  | .ite t a b cl, ρ => ((ev c t ρ).bind toB).fl fun x => (if x then execB c a ρ else execB c b ρ).then fun ρ => .nx (clear cl ρ)
  | .for it tg b cl, ρ => (evI c it ρ).fl fun ds => forX (execB c b) tg cl ds (clear cl ρ)
  | .forE e tg b cl, ρ => ((ev c e ρ).bind fun d => rowsD true d).fl fun ds => forX (execB c b) tg cl ds (clear cl ρ)
  | .forR it i tg b cl, ρ => ((rowsD it (ρ.getD i .none)).fl fun ds => forX (execB c b) tg cl ds (clear cl ρ)).noex
  | .forO i tg b cl, ρ => forOX (execB c b) tg cl i (lenO (ρ.getD i .none)) 0 (clear cl ρ)
  | .while n t b cl, ρ => whileX (fun ρ => (ev c t ρ).bind toB) (execB c b) cl n (clear cl ρ)
  | .ret e, ρ => (ev c e ρ).fl .rt
  | .expr e, ρ => (ev c e ρ).fl fun _ => .nx ρ
  | .co _ _, ρ => .nx ρ
  | .brk, ρ => .bk ρ
  | .unr, _ => .bad
  | .raise cls, _ => .ex ⟨cls, none⟩
  | .raiseW cls fld e, ρ => (ev c e ρ).fl fun d => if imm d then .ex ⟨cls, some (fld, d)⟩ else .bad
  | .par i j es, ρ => (evs c es ρ).fl fun ds => match ds with
    | [a, b] => .nx ((ρ.set i a).set j b)
    | _ => .bad
  | .try b i yes no h cl, ρ => (catchX yes no (fun x => (xrun x h ρ).fl) (execB c b ρ)).then fun ρ => .nx (clear cl ρ)
  | .callM j p i es, ρ => (evs c es ρ).noex.fl fun ds => (callD c.ms j (ins p (ρ.getD i .none) ds)).noex.fl fun d => .nx (ρ.set i d)
  | .tryR b yes no k, ρ => catchX yes no (fun _ => .rt k.d) (execB c b ρ)
def execB (c : Cg) : B → Env → Fl
  | .nil, ρ => .nx ρ
  | .cons s b, ρ => (exec c s ρ).then (execB c b)
end
def runB (c : Cg) (b : B) (n : Nat) (ds : List D) : Res D := match execB c b (ds ++ List.replicate (n - ds.length) .none) with
  | .nx _ => .ok .none
  | .rt d => .ok d
  | .ex x => .ex x
  | _ => .bad
/-- what parameter p has at the end -/
def runM (c : Cg) (b : B) (n p : Nat) (ds : List D) : Res D := match execB c b (ds ++ List.replicate (n - ds.length) .none) with
  | .nx ρ => .ok (ρ.getD p .none)
  | .ex x => .ex x
  | _ => .bad
end En

set_option Elab.async false
set_option linter.all false
set_option autoImplicit false
set_option maxRecDepth 100000
namespace En
open PySem PySem.Spec PyProof.Rows L2

/-! ## how data lie in the heap: values, ownership -/
abbrev Frag := PySem.W.Frag
abbrev Ow := Addr → Nat
def one (a : Addr) : Ow := fun b => if b = a then 1 else 0
def kd : Key → D
  | .inl i => .int i
  | .inr s => .str s
/-- a list of the written part -/
def KL (K : Frag) (a : Addr) (xs : List V) : Prop :=
  ∃ (o : Obj) (its : Array Value) (n : Nat), K.lookup a = some o ∧ o.cls = .type "list" ∧ o.dict = none ∧ o.data = .seq its n ∧ its.size ≤ sizeLine ∧ Vals xs its.toList
/-- entries of a dict whose keys are tuples: the key, where it lies, the value -/
abbrev NE := NestedKey × Addr × V
abbrev NR : List NE → List (NestedKey × Addr × Value) → Prop := Paired fun p q => p.1 = q.1 ∧ p.2.1 = q.2.1 ∧ RelV p.2.2 q.2.2
def entN (w : World) (x : NestedKey × Addr × Value) : DictEntry := ⟨x.1.hash w, .ref x.2.1, x.2.2⟩
/-- a dict whose keys are tuples, by its entries -/
def dctO (w : World) (a : Addr) (xs : List NE) : HO := .ext fun h => xs.length ≤ sizeLine ∧ (a == sysModules) = false ∧ (xs.map (·.1)).Nodup ∧ ∃ vs : List (NestedKey × Addr × Value), NR xs vs ∧ ∃ o es ep, h.get? a = some o ∧ o.ExactDict ∧ o.data = .dict es ep ∧ es.toList = vs.map (entN w)
def Box (K : Frag) (H : Hp) (z : Addr → Prop) (a : Addr) (o : HO) (w : Prop) : Md → Ow → Prop
  | .o, m => H a = some o ∧ ∀ b, m b = one a b
  | .f, m => ((Rd H a o ∧ z a) ∨ w) ∧ ∀ b, m b = 0
  | .r, m => (Rd H a o ∨ w) ∧ ∀ b, m b = 0
/-- the keys, as data and as they are told -/
def KeysT (ks : List D) (xs : List NE) : Prop := ks.map nkOf = xs.map (fun x => some x.1) ∧ (∀ x ∈ xs, nkT x.1 = true) ∧ (xs.map (·.1)).Nodup
/-- what is fixed: the written part, the world -/
structure Fx where
  K : Frag
  w : World
/-- one node: its children and what it owns itself -/
inductive Nd (F : Fx) (H : Hp) (z : Addr → Prop) : Ty → D → V → Ty → List D → List V → Ow → Prop
  | non {τ m} : (∀ b, m b = 0) → Nd F H z τ .none .non τ [] [] m
  | bl {τ b m} : (∀ b, m b = 0) → Nd F H z τ (.bool b) (.bl b) τ [] [] m
  | int {τ i m} : (∀ b, m b = 0) → Nd F H z τ (.int i) (.int i) τ [] [] m
  | str {τ s m} : (∀ b, m b = 0) → Nd F H z τ (.str s) (.str s) τ [] [] m
  | tup {τ a ds vs m} : SqT F.K H a vs → (∀ b, m b = 0) → Nd F H z τ (.tuple ds) (.ref a) τ ds vs m
  | lst {q t a ds vs m} : Box F.K H z a (.lst vs) (KL F.K a vs) q m → Nd F H z (.N q t) (.list ds) (.ref a) t ds vs m
  | dk {q t a ds m} {hk : List (Key × V)} : (hk.map (·.1)).Nodup → ds.length = hk.length → Box F.K H z a (.dK hk) False q m → Nd F H z (.N q t) (.dict ((hk.map fun p => kd p.1).zip ds)) (.ref a) t ds (hk.map (·.2)) m
  | dt {q t a ds m} {ks : List D} {xs : List NE} : xs ≠ [] → KeysT ks xs → ds.length = xs.length → Box F.K H z a (dctO F.w a xs) False q m → Nd F H z (.N q t) (.dict (ks.zip ds)) (.ref a) t (ks ++ ds) (xs.map (fun x => .ref x.2.1) ++ xs.map (fun x => x.2.2)) m
/-- a row of values -/
inductive RL (F : Fx) (H : Hp) (z : Addr → Prop) : Ty → List D → List V → Ow → Prop
  | nil {τ m} : (∀ b, m b = 0) → RL F H z τ [] [] m
  | cons {τ τ' d v ds vs ds' vs' m m0 m1 m2} : Nd F H z τ d v τ' ds' vs' m0 → RL F H z τ' ds' vs' m1 → RL F H z τ ds vs m2 → (∀ b, m b = m0 b + m1 b + m2 b) → RL F H z τ (d :: ds) (v :: vs) m
/-- a dict with tuples as keys -/
abbrev Rp (F : Fx) (H : Hp) (z : Addr → Prop) (τ : Ty) (d : D) (v : V) (m : Ow) : Prop := RL F H z τ [d] [v] m

variable {F : Fx} {H H' H'' : Hp} {z z' z'' : Addr → Prop} {τ τ' : Ty} {d : D} {v : V} {ds : List D} {vs : List V} {m m' m1 m2 m0 : Ow}

theorem RL.eqm (h : RL F H z τ ds vs m) (e : ∀ b, m' b = m b) : RL F H z τ ds vs m' := by
  cases h with
  | nil h => exact .nil fun b => by rw [e, h]
  | cons a b c q => exact .cons a b c fun x => by rw [e, q]
theorem RL.cons' (h1 : Rp F H z τ d v m1) (h2 : RL F H z τ ds vs m2) (e : ∀ b, m b = m1 b + m2 b) : RL F H z τ (d :: ds) (v :: vs) m := by
  cases h1 with
  | cons a b c q =>
    cases c with
    | nil c => exact .cons a b h2 fun x => by have := e x; have := q x; have := c x; omega
theorem RL.uncons (h : RL F H z τ (d :: ds) (v :: vs) m) : ∃ m1 m2, Rp F H z τ d v m1 ∧ RL F H z τ ds vs m2 ∧ ∀ b, m b = m1 b + m2 b := by
  cases h with
  | cons a b c q => exact ⟨_, _, .cons a b (.nil (m := fun _ => 0) fun _ => rfl) (fun _ => rfl), c, fun x => by have := q x; omega⟩
theorem RL.length (h : RL F H z τ ds vs m) : ds.length = vs.length := by
  induction h with
  | nil _ => rfl
  | cons _ _ _ _ _ ih => simp [ih]
theorem RL.append {ds2 vs2} (h1 : RL F H z τ ds vs m1) (h2 : RL F H z τ ds2 vs2 m2) (e : ∀ b, m b = m1 b + m2 b) : RL F H z τ (ds ++ ds2) (vs ++ vs2) m := by
  induction h1 generalizing m with
  | nil q => exact h2.eqm fun b => by rw [e, q]; omega
  | cons a b c q ih1 ih2 =>
    rename_i mm mm0 mm1 mm2
    exact .cons a b (ih2 h2 (m := fun b => mm2 b + m2 b) fun _ => rfl) fun x => by have := e x; have := q x; omega
theorem RL.zero (h : RL F H z τ [] [] m) : ∀ b, m b = 0 := by cases h; assumption

/-! ## the state's words -/
def Ok (H : Hp) (z : Addr → Prop) (m : Ow) : Prop := ∀ a, m a ≤ 1 ∧ (m a = 1 → ¬ z a ∧ Mut (H a)) ∧ (z a → H a ≠ none)
structure Stp (H : Hp) (z : Addr → Prop) (m : Ow) (H' : Hp) (z' : Addr → Prop) (m' : Ow) : Prop where
  keep : ∀ a o, H a = some o → m a = 0 → H' a = some o
  live : ∀ a, H a ≠ none → H' a ≠ none
  zz : ∀ a, z a → z' a
  dec : ∀ a, H a ≠ none → m' a ≤ m a ∧ (z' a → z a ∨ (1 ≤ m a ∧ m' a = 0))
  ok : Ok H' z' m'
theorem Ok.eqm (h : Ok H z m) (e : ∀ b, m' b = m b) : Ok H z m' := fun a => by rw [e]; exact h a
theorem Stp.eqm (h : Stp H z m H' z' m') {m3 m4 : Ow} (e : ∀ b, m3 b = m b) (e' : ∀ b, m4 b = m' b) : Stp H z m3 H' z' m4 :=
  ⟨fun a o q r => h.keep a o q (by rw [← e]; exact r), h.live, h.zz, fun a q => by rw [e, e']; exact h.dec a q, h.ok.eqm e'⟩
theorem Stp.refl (h : Ok H z m) : Stp H z m H z m := ⟨fun _ _ q _ => q, fun _ q => q, fun _ q => q, fun _ _ => ⟨Nat.le_refl _, .inl⟩, h⟩
theorem Stp.trans (a : Stp H z m H' z' m') (b : Stp H' z' m' H'' z'' m1) : Stp H z m H'' z'' m1 where
  keep := fun x o q r => b.keep x o (a.keep x o q r) (by have := (a.dec x (by rw [q]; simp)).1; omega)
  live := fun x q => b.live x (a.live x q)
  zz := fun x q => b.zz x (a.zz x q)
  dec := fun x q => by
    have h1 := a.dec x q
    have h2 := b.dec x (a.live x q)
    refine ⟨by omega, fun zq => ?_⟩
    rcases h2.2 zq with h | ⟨h, h'⟩
    · rcases h1.2 h with h | ⟨h, h'⟩
      · exact .inl h
      · exact .inr ⟨h, by omega⟩
    · exact .inr ⟨by omega, h'⟩
  ok := b.ok
/-- dropping ownership -/
theorem Ok.drop (h : Ok H z m) (e : ∀ b, m' b ≤ m b) : Ok H z m' := fun a => by
  have h1 := h a
  have h2 := e a
  refine ⟨by omega, fun q => h1.2.1 (by omega), h1.2.2⟩
theorem Stp.drop (h : Stp H z m H' z' m') (e : ∀ b, m1 b ≤ m' b) : Stp H z m H' z' m1 where
  keep := h.keep
  live := h.live
  zz := h.zz
  dec := fun a q => by
    have h1 := h.dec a q
    have h2 := e a
    refine ⟨by omega, fun zq => ?_⟩
    rcases h1.2 zq with r | ⟨r, r'⟩
    · exact .inl r
    · exact .inr ⟨r, by omega⟩
  ok := h.ok.drop e
/-- another's ownership r beside -/
theorem Stp.frame {r : Ow} (h : Stp H z m H' z' m') (ok : Ok H z fun a => m a + r a) : Stp H z (fun a => m a + r a) H' z' (fun a => m' a + r a) where
  keep := fun a o q e => h.keep a o q (by omega)
  live := h.live
  zz := h.zz
  dec := fun a q => by
    have h1 := h.dec a q
    have h2 := (ok a).1
    simp only at h2 ⊢
    refine ⟨by omega, fun zq => ?_⟩
    rcases h1.2 zq with e | ⟨e, e'⟩
    · exact .inl e
    · exact .inr ⟨by omega, by omega⟩
  ok := fun a => by
    have h1 := h.ok a
    have h2 := ok a
    simp only at h2 ⊢
    by_cases hr : r a = 0
    · rw [hr]; exact h1
    · have hm : m a + r a = 1 := by omega
      obtain ⟨nz, mu⟩ := h2.2.1 hm
      have hH : H a ≠ none := by intro e; rw [e] at mu; exact mu
      have d := h.dec a hH
      have hm0 : m a = 0 := by omega
      refine ⟨by omega, fun _ => ⟨fun zq => ?_, ?_⟩, h1.2.2⟩
      · rcases d.2 zq with e | ⟨e, _⟩
        · exact nz e
        · omega
      · cases e : H a with
        | none => exact absurd e hH
        | some o => rw [h.keep a o e hm0]; rw [e] at mu; exact mu

/-! ## stability -/
theorem rdSame {a : Addr} {o : HO} (h : Rd H a o) (k : ∀ u, H a = some u → H' a = some u) : Rd H' a o := by
  rcases h with h | ⟨ob, h⟩
  · exact .inl (k _ h)
  · exact .inr ⟨ob, k _ h⟩
theorem SqT.same {K : Frag} {a : Addr} {xs : List V} (h : SqT K H a xs) (k : ∀ u, ¬ Mut (some u) → H a = some u → H' a = some u) : SqT K H' a xs := by
  rcases h with (h | ⟨ob, h⟩) | h
  · exact .inl (.inl (k _ (fun q => q) h))
  · exact .inl (.inr ⟨ob, k _ (fun q => q) h⟩)
  · exact .inr h
/-- what may be relied on: what isn't mutable, what is frozen, what is owned -/
theorem Box.keep {K : Frag} {q : Md} {a : Addr} {o : HO} {w : Prop} (h : Box K H z a o w q m) (hk : ∀ b u, H b = some u → (q = .r ∨ ¬ Mut (some u) ∨ z b ∨ m b = 1) → H' b = some u) (hz : ∀ b, z b → z' b) : Box K H' z' a o w q m := by
  cases q with
  | r => exact ⟨h.1.imp (fun q => rdSame q fun u e => hk a u e (.inl rfl)) id, h.2⟩
  | f => exact ⟨h.1.imp (fun q => ⟨rdSame q.1 fun u e => hk a u e (.inr (.inr (.inl q.2))), hz _ q.2⟩) id, h.2⟩
  | o => exact ⟨hk a _ h.1 (.inr (.inr (.inr (by rw [h.2]; simp [one])))), h.2⟩
theorem Ty.st_inv {q : Md} {t : Ty} (h : (Ty.N q t).st = true) : q ≠ .r ∧ t.st = true := by cases q <;> simp_all [Ty.st]
theorem Nd.keep {ds' vs'} (h : Nd F H z τ d v τ' ds' vs' m) (hk : ∀ b u, H b = some u → (τ.st = false ∨ ¬ Mut (some u) ∨ z b ∨ m b = 1) → H' b = some u) (hz : ∀ b, z b → z' b) : Nd F H' z' τ d v τ' ds' vs' m := by
  have hr : ∀ q t, τ = .N q t → q = .r → τ.st = false := fun q t e e' => by rw [e, e']; rfl
  cases h with
  | non h => exact .non h
  | bl h => exact .bl h
  | int h => exact .int h
  | str h => exact .str h
  | tup h e => exact .tup (SqT.same h fun u nm q => hk _ u q (.inr (.inl nm))) e
  | lst h => exact .lst (h.keep (fun b u e q => hk b u e (q.imp (hr _ _ rfl) id)) hz)
  | dk n l h => exact .dk n l (h.keep (fun b u e q => hk b u e (q.imp (hr _ _ rfl) id)) hz)
  | dt n k l h => exact .dt n k l (h.keep (fun b u e q => hk b u e (q.imp (hr _ _ rfl) id)) hz)
theorem Nd.st {ds' vs'} (h : Nd F H z τ d v τ' ds' vs' m) (hs : τ.st = true) : τ'.st = true := by
  cases h <;> first | exact hs | exact (Ty.st_inv hs).2
theorem RL.keep (h : RL F H z τ ds vs m) (hs : τ.st = true) (hk : ∀ b u, H b = some u → (¬ Mut (some u) ∨ z b ∨ 1 ≤ m b) → H' b = some u) (hz : ∀ b, z b → z' b) : RL F H' z' τ ds vs m := by
  induction h with
  | nil e => exact .nil e
  | cons a b c q ih1 ih2 =>
    refine .cons (a.keep (fun b u e h => hk b u e ?_) hz) (ih1 (a.st hs) fun b u e h => hk b u e ?_) (ih2 hs fun b u e h => hk b u e ?_) q
    · rcases h with h | h | h | h
      · rw [h] at hs; cases hs
      · exact .inl h
      · exact .inr (.inl h)
      · exact .inr (.inr (by have := q b; omega))
    · rcases h with h | h | h
      · exact .inl h
      · exact .inr (.inl h)
      · exact .inr (.inr (by have := q b; omega))
    · rcases h with h | h | h
      · exact .inl h
      · exact .inr (.inl h)
      · exact .inr (.inr (by have := q b; omega))
abbrev Ext (H H' : Hp) : Prop := ∀ b o, H b = some o → H' b = some o
theorem Ext.refl : Ext H H := fun _ _ q => q
theorem Ext.trans (a : Ext H H') (b : Ext H' H'') : Ext H H'' := fun x o q => b x o (a x o q)
theorem RL.ext (h : RL F H z τ ds vs m) (hk : Ext H H') (hz : ∀ b, z b → z' b) : RL F H' z' τ ds vs m := by
  induction h with
  | nil e => exact .nil e
  | cons a b c q ih1 ih2 => exact .cons (a.keep (fun b u e _ => hk b u e) hz) ih1 ih2 q
/-- beside a step of another's -/
theorem RL.beside {r : Ow} (h : RL F H z τ ds vs r) (hs : τ.st = true) (s : Stp H z m H' z' m') (ok : Ok H z fun a => m a + r a) : RL F H' z' τ ds vs r := by
  refine h.keep hs (fun b u e q => s.keep b u e ?_) s.zz
  have o := ok b
  by_cases hm : m b = 0
  · exact hm
  · have h1 : m b + r b = 1 := by have := o.1; simp only at this; omega
    obtain ⟨nz, mu⟩ := o.2.1 h1
    rcases q with q | q | q
    · rw [e] at mu; exact absurd mu q
    · exact absurd q nz
    · omega

/-! ## coercion -/
theorem Ty.no_inv {q : Md} {t : Ty} (h : (Ty.N q t).no = true) : q ≠ .o ∧ t.no = true := by cases q <;> simp_all [Ty.no]
theorem Box.no {K : Frag} {q : Md} {a : Addr} {o : HO} {w : Prop} (h : Box K H z a o w q m) (n : q ≠ .o) : ∀ b, m b = 0 := by
  cases q with
  | o => exact absurd rfl n
  | f => exact h.2
  | r => exact h.2
theorem Nd.no {ds' vs'} (h : Nd F H z τ d v τ' ds' vs' m) (n : τ.no = true) : τ'.no = true ∧ ∀ b, m b = 0 := by
  cases h with
  | non h => exact ⟨n, h⟩
  | bl h => exact ⟨n, h⟩
  | int h => exact ⟨n, h⟩
  | str h => exact ⟨n, h⟩
  | tup h e => exact ⟨n, e⟩
  | lst h => exact ⟨(Ty.no_inv n).2, h.no (Ty.no_inv n).1⟩
  | dk _ _ h => exact ⟨(Ty.no_inv n).2, h.no (Ty.no_inv n).1⟩
  | dt _ _ _ h => exact ⟨(Ty.no_inv n).2, h.no (Ty.no_inv n).1⟩
theorem RL.no (h : RL F H z τ ds vs m) (n : τ.no = true) : ∀ b, m b = 0 := by
  induction h with
  | nil e => exact e
  | cons a b c q ih1 ih2 => exact fun x => by rw [q, (a.no n).2, ih1 (a.no n).1, ih2 n]
theorem RL.ofI (h : RL F H z .I ds vs m) (τ' : Ty) (z' : Addr → Prop) : RL F H z' τ' ds vs m := by
  generalize e : Ty.I = t at h
  induction h with
  | nil q => exact .nil q
  | cons a b c q ih1 ih2 =>
    subst e
    cases a with
    | non h => exact .cons (.non h) (ih1 rfl) (ih2 rfl) q
    | bl h => exact .cons (.bl h) (ih1 rfl) (ih2 rfl) q
    | int h => exact .cons (.int h) (ih1 rfl) (ih2 rfl) q
    | str h => exact .cons (.str h) (ih1 rfl) (ih2 rfl) q
    | tup h e => exact .cons (.tup h e) (ih1 rfl) (ih2 rfl) q
/-- what a coercion does: m' is still owned, the rest is frozen -/
def Co (F : Fx) (H : Hp) (z : Addr → Prop) (τ' : Ty) (ds : List D) (vs : List V) (m : Ow) : Prop :=
  ∃ m' : Ow, (∀ b, m' b ≤ m b) ∧ ∀ z'' : Addr → Prop, (∀ a, z a → z'' a) → (∀ a, 1 ≤ m a → m' a = 0 → z'' a) → RL F H z'' τ' ds vs m'
theorem co_same (h : RL F H z τ ds vs m) : Co F H z τ ds vs m := ⟨m, fun _ => Nat.le_refl _, fun _ hz _ => h.ext (fun _ _ q => q) hz⟩
/-- a box of the mode q as one of the mode q' -/
theorem Box.co {K : Frag} {q q' : Md} {a : Addr} {o : HO} {w : Prop} (h : Box K H z a o w q m) (e : mle q q' = true) :
    ∃ m', (∀ b, m' b ≤ m b) ∧ ∀ z'' : Addr → Prop, (∀ a, z a → z'' a) → (∀ a, 1 ≤ m a → m' a = 0 → z'' a) → Box K H z'' a o w q' m' := by
  have ho : ∀ b, (fun _ => 0 : Ow) b ≤ m b := fun _ => Nat.zero_le _
  cases q with
  | o =>
    have h1 : 1 ≤ m a := by rw [h.2]; simp [one]
    cases q' with
    | o => exact ⟨m, fun _ => Nat.le_refl _, fun z'' _ _ => h⟩
    | f => exact ⟨_, ho, fun z'' _ hm => ⟨.inl ⟨.inl h.1, hm a h1 rfl⟩, fun _ => rfl⟩⟩
    | r => exact ⟨_, ho, fun z'' _ _ => ⟨.inl (.inl h.1), fun _ => rfl⟩⟩
  | f =>
    cases q' with
    | o => cases e
    | f => exact ⟨m, fun _ => Nat.le_refl _, fun z'' hz _ => ⟨h.1.imp (fun q => ⟨q.1, hz _ q.2⟩) id, h.2⟩⟩
    | r => exact ⟨m, fun _ => Nat.le_refl _, fun z'' hz _ => ⟨h.1.imp (fun q => q.1) id, h.2⟩⟩
  | r =>
    cases q' with
    | o => cases e
    | f => cases e
    | r => exact ⟨m, fun _ => Nat.le_refl _, fun z'' hz _ => h⟩
theorem sub_co : ∀ (τ τ' : Ty) {ds : List D} {vs : List V} {m : Ow}, sub τ τ' = true → RL F H z τ ds vs m → (∀ a, m a ≤ 1) → Co F H z τ' ds vs m := by
  intro τ
  induction τ with
  | I => exact fun τ' ds vs m _ h _ => ⟨m, fun _ => Nat.le_refl _, fun z'' _ _ => h.ofI τ' z''⟩
  | N q t iht =>
    intro τ' ds vs m e h h1
    cases τ' with
    | I => cases e
    | N q' t' =>
      have e' : mle q q' = true ∧ sub t t' = true := by simpa [sub] using e
      generalize eu : Ty.N q t = u at h
      induction h with
      | nil q => exact ⟨_, fun _ => Nat.le_refl _, fun _ _ _ => .nil q⟩
      | cons a b c qq ih1 ih2 =>
        subst eu
        rename_i τ1 d v ds vs ds' vs' m m0 m1 m2
        obtain ⟨m2', l2, k2⟩ := ih2 (fun a => by have := qq a; have := h1 a; omega) rfl
        have atom : (∀ b, m0 b = 0) → (∀ z'', Nd F H z'' (.N q' t') d v (.N q' t') [] [] m0) → ds' = [] → vs' = [] → Co F H z (.N q' t') (d :: ds) (v :: vs) m := by
          intro e0 n e1 e2
          refine ⟨m2', fun b => by have := qq b; have := l2 b; omega, fun z'' hz hm => .cons (n z'') (.nil (m := fun _ => 0) fun _ => rfl) (k2 z'' hz fun a x y => hm a (by have := qq a; omega) y) fun b => by have := e0 b; omega⟩
        have box : ∀ {a : Addr} {o : HO} {w : Prop}, Box F.K H z a o w q m0 → RL F H z t ds' vs' m1 → (∀ z'' m0', Box F.K H z'' a o w q' m0' → Nd F H z'' (.N q' t') d v t' ds' vs' m0') → Co F H z (.N q' t') (d :: ds) (v :: vs) m := by
          intro a o w hb b mk
          obtain ⟨m1', l1, k1⟩ := iht t' e'.2 b fun a => by have := qq a; have := h1 a; omega
          obtain ⟨m0', l0, k0⟩ := hb.co e'.1
          have bound : ∀ a, m0 a + m1 a + m2 a ≤ 1 := fun a => by have := qq a; have := h1 a; omega
          refine ⟨fun b => m0' b + m1' b + m2' b, fun b => by have := qq b; have := l0 b; have := l1 b; have := l2 b; simp only; omega, fun z'' hz hm => .cons (mk z'' m0' (k0 z'' hz fun a x y => ?_)) (k1 z'' hz fun a x y => ?_) (k2 z'' hz fun a x y => ?_) fun b => rfl⟩
          · exact hm a (by have := qq a; omega) (by have := bound a; have := l0 a; have := l1 a; have := l2 a; simp only; omega)
          · exact hm a (by have := qq a; omega) (by have := bound a; have := l0 a; have := l1 a; have := l2 a; simp only; omega)
          · exact hm a (by have := qq a; omega) (by have := bound a; have := l0 a; have := l1 a; have := l2 a; simp only; omega)
        cases a with
        | non h => exact atom h (fun _ => .non h) rfl rfl
        | bl h => exact atom h (fun _ => .bl h) rfl rfl
        | int h => exact atom h (fun _ => .int h) rfl rfl
        | str h => exact atom h (fun _ => .str h) rfl rfl
        | tup h e0 =>
          obtain ⟨m1', l1, k1⟩ := ih1 (fun a => by have := qq a; have := h1 a; omega) rfl
          have bound : ∀ a, m0 a + m1 a + m2 a ≤ 1 := fun a => by have := qq a; have := h1 a; omega
          refine ⟨fun b => m0 b + m1' b + m2' b, fun b => by have := qq b; have := l1 b; have := l2 b; simp only; omega, fun z'' hz hm => .cons (.tup h e0) (k1 z'' hz fun a x y => ?_) (k2 z'' hz fun a x y => ?_) fun b => rfl⟩
          · exact hm a (by have := qq a; omega) (by have := bound a; have := e0 a; have := l1 a; have := l2 a; simp only; omega)
          · exact hm a (by have := qq a; omega) (by have := bound a; have := e0 a; have := l1 a; have := l2 a; simp only; omega)
        | lst h => exact box h b fun z'' m0' hb => .lst hb
        | dk n l h => exact box h b fun z'' m0' hb => .dk n l hb
        | dt n k l h => exact box h b fun z'' m0' hb => .dt n k l hb
theorem Co.step (h : Co F H z τ' ds vs m) (ok : Ok H z m) : ∃ (z' : Addr → Prop) (m' : Ow), RL F H z' τ' ds vs m' ∧ Stp H z m H z' m' := by
  obtain ⟨m', l, k⟩ := h
  refine ⟨fun a => z a ∨ (1 ≤ m a ∧ m' a = 0), m', k _ (fun a q => .inl q) (fun a q r => .inr ⟨q, r⟩), fun _ _ q _ => q, fun _ q => q, fun _ q => .inl q, fun a q => ⟨l a, fun r => r⟩, fun a => ?_⟩
  have o := ok a
  have := l a
  refine ⟨by omega, fun e => ⟨fun q => ?_, (o.2.1 (by omega)).2⟩, fun q => ?_⟩
  · rcases q with q | q
    · exact (o.2.1 (by omega)).1 q
    · omega
  · rcases q with q | q
    · exact o.2.2 q
    · have mu := (o.2.1 (by omega)).2
      intro e
      rw [e] at mu
      exact mu
theorem sub_step (e : sub τ τ' = true) (h : RL F H z τ ds vs m) (ok : Ok H z m) : ∃ (z' : Addr → Prop) (m' : Ow), RL F H z' τ' ds vs m' ∧ Stp H z m H z' m' :=
  (sub_co τ τ' e h fun a => (ok a).1).step ok
/-- as it is read: nothing owned -/
theorem RL.rdd (h : RL F H z τ ds vs m) : RL F H z (rd τ) ds vs fun _ => 0 := by
  induction h with
  | nil e => exact .nil fun _ => rfl
  | cons a b c q ih1 ih2 =>
    refine RL.cons (m0 := fun _ => 0) (m1 := fun _ => 0) (m2 := fun _ => 0) (τ' := En.rd _) ?_ ih1 ih2 fun _ => rfl
    have box : ∀ {q : Md} {t : Ty} {a : Addr} {o : HO} {w : Prop} {m : Ow} {ds' : List D} {vs' : List V} {d : D} {v : V}, Box F.K H z a o w q m → (∀ q t, Box F.K H z a o w q (fun _ => 0) → Nd F H z (.N q t) d v t ds' vs' fun _ => 0) → Nd F H z (En.rd (.N q t)) d v (En.rd t) ds' vs' fun _ => 0 := by
      intro q t a o w m ds' vs' d v hb mk
      cases q with
      | o => exact mk .r _ ⟨.inl (.inl hb.1), fun _ => rfl⟩
      | f => exact mk .f _ ⟨hb.1, fun _ => rfl⟩
      | r => exact mk .r _ ⟨hb.1, fun _ => rfl⟩
    cases a with
    | non h => exact .non fun _ => rfl
    | bl h => exact .bl fun _ => rfl
    | int h => exact .int fun _ => rfl
    | str h => exact .str fun _ => rfl
    | tup h e => exact .tup h fun _ => rfl
    | lst h => exact box h fun q t hb => .lst hb
    | dk n l h => exact box h fun q t hb => .dk n l hb
    | dt n k l h => exact box h fun q t hb => .dt n k l hb
end En

set_option Elab.async false
set_option linter.all false
set_option autoImplicit false
set_option maxRecDepth 100000
namespace En
open PySem PySem.Spec PyProof.Rows L2
abbrev TyEnv := List (Option Ty)
inductive SE (F : Fx) (H : Hp) (z : Addr → Prop) : TyEnv → List D → L2.St → Ow → Prop
  | nil {m} : (∀ b, m b = 0) → SE F H z [] [] [] m
  | no {Γ ρ σ d x m} : SE F H z Γ ρ σ m → SE F H z (none :: Γ) (d :: ρ) (x :: σ) m
  | yes {Γ ρ σ τ d v m m1 m2} : Rp F H z τ d v m1 → SE F H z Γ ρ σ m2 → (∀ b, m b = m1 b + m2 b) → SE F H z (some τ :: Γ) (d :: ρ) (some v :: σ) m
/-- several values of their types -/
inductive RA (F : Fx) (H : Hp) (z : Addr → Prop) : List Ty → List D → List V → Ow → Prop
  | nil {m} : (∀ b, m b = 0) → RA F H z [] [] [] m
  | cons {τ τs d v ds vs m m1 m2} : Rp F H z τ d v m1 → RA F H z τs ds vs m2 → (∀ b, m b = m1 b + m2 b) → RA F H z (τ :: τs) (d :: ds) (v :: vs) m
variable {F : Fx} {H H' H'' : Hp} {z z' z'' : Addr → Prop} {τ τ' : Ty} {d : D} {v : V} {ds : List D} {vs : List V} {m m' m1 m2 m0 : Ow}
/-! ## the slots -/
variable {Γ Γ' Γ'' : TyEnv} {ρ ρ' : List D} {σ σ' : L2.St}
theorem SE.eqm (h : SE F H z Γ ρ σ m) (e : ∀ b, m' b = m b) : SE F H z Γ ρ σ m' := by
  induction h generalizing m' with
  | nil q => exact .nil fun b => by rw [e, q]
  | no a ih => exact .no (ih e)
  | yes a b c ih => exact .yes a b fun x => by rw [e, c]
theorem SE.ext (h : SE F H z Γ ρ σ m) (hk : Ext H H') (hz : ∀ b, z b → z' b) : SE F H' z' Γ ρ σ m := by
  induction h with
  | nil q => exact .nil q
  | no a ih => exact .no ih
  | yes a b c ih => exact .yes (a.ext hk hz) ih c
def TyEnv.st (Γ : TyEnv) : Bool := Γ.all fun o => match o with | none => true | some τ => τ.st
theorem SE.beside {r : Ow} (h : SE F H z Γ ρ σ r) (hs : TyEnv.st Γ = true) (s : Stp H z m H' z' m') (ok : Ok H z fun a => m a + r a) : SE F H' z' Γ ρ σ r := by
  induction h with
  | nil q => exact .nil q
  | no a ih =>
    exact .no (ih hs ok)
  | yes a b c ih =>
    rename_i Γ ρ σ τ d v r r1 r2
    have hs' : (τ.st && TyEnv.st Γ) = true := hs
    rw [Bool.and_eq_true] at hs'
    exact .yes (a.beside hs'.1 s (ok.drop fun x => by have := c x; omega)) (ih hs'.2 (ok.drop fun x => by have := c x; omega)) c
theorem SE.len (h : SE F H z Γ ρ σ m) : Γ.length = σ.length ∧ ρ.length = σ.length := by
  induction h with
  | nil _ => exact ⟨rfl, rfl⟩
  | no _ ih => simp [ih.1, ih.2]
  | yes _ _ _ ih => simp [ih.1, ih.2]
theorem SE.get : ∀ {Γ : TyEnv} {ρ : List D} {σ : L2.St} {m : Ow} {i : Nat}, SE F H z Γ ρ σ m → Γ[i]? = some (some τ) → ∃ (v : V) (m1 m2 : Ow), σ[i]? = some (some v) ∧ Rp F H z τ (ρ.getD i .none) v m1 ∧ SE F H z (Γ.set i none) ρ σ m2 ∧ ∀ b, m b = m1 b + m2 b
  | _, _, _, _, i, .nil _, e => by simp at e
  | _, _, _, _, 0, .no _, e => by simp at e
  | _, _, _, _, 0, .yes a b c, e => by
    simp at e
    subst e
    exact ⟨_, _, _, rfl, by simpa using a, .no b, c⟩
  | _, _, _, _, i + 1, .no a, e => by
    obtain ⟨v, m1, m2, h1, h2, h3, h4⟩ := SE.get (i := i) a (by simpa using e)
    exact ⟨v, m1, m2, by simpa using h1, by simpa using h2, .no h3, h4⟩
  | _, _, _, m, i + 1, .yes a b c, e => by
    obtain ⟨v, m1, m2, h1, h2, h3, h4⟩ := SE.get (i := i) b (by simpa using e)
    exact ⟨v, m1, fun x => _ + m2 x, by simpa using h1, by simpa using h2, .yes a h3 fun _ => rfl, fun x => by have := c x; have := h4 x; simp only; omega⟩
theorem SE.drop : ∀ {Γ : TyEnv} {ρ : List D} {σ : L2.St} {m : Ow} (i : Nat), SE F H z Γ ρ σ m → ∃ m2 : Ow, SE F H z (Γ.set i none) ρ σ m2 ∧ ∀ b, m2 b ≤ m b
  | _, _, _, m, i, .nil h => ⟨m, .nil h, fun _ => Nat.le_refl _⟩
  | _, _, _, m, 0, .no h => ⟨m, .no h, fun _ => Nat.le_refl _⟩
  | _, _, _, m, 0, .yes a b c => ⟨_, .no b, fun x => by have := c x; omega⟩
  | _, _, _, m, i + 1, .no h => by
    obtain ⟨m2, h1, h2⟩ := SE.drop i h
    exact ⟨m2, .no h1, h2⟩
  | _, _, _, m, i + 1, .yes a b c => by
    obtain ⟨m2, h1, h2⟩ := SE.drop i b
    exact ⟨fun x => _ + m2 x, .yes a h1 fun _ => rfl, fun x => by have := c x; have := h2 x; simp only; omega⟩
/-- the i-th slot is stored -/
theorem SE.put : ∀ {Γ : TyEnv} {ρ : List D} {σ : L2.St} {m : Ow} (i : Nat), SE F H z Γ ρ σ m → i < Γ.length → Rp F H z τ d v m1 → ∃ m2 : Ow, SE F H z (Γ.set i (some τ)) (ρ.set i d) (σ.set i (some v)) (fun b => m1 b + m2 b) ∧ ∀ b, m2 b ≤ m b
  | _, _, _, m, i, .nil h, hi, _ => by simp at hi
  | _, _, _, m, 0, .no h, _, r => ⟨m, .yes r h fun _ => rfl, fun _ => Nat.le_refl _⟩
  | _, _, _, m, 0, .yes a b c, _, r => ⟨_, .yes r b fun _ => rfl, fun x => by have := c x; omega⟩
  | _, _, _, m, i + 1, .no h, hi, r => by
    obtain ⟨m2, h1, h2⟩ := SE.put i h (by simpa using hi) r
    exact ⟨m2, .no h1, h2⟩
  | _, _, _, m, i + 1, .yes a b c, hi, r => by
    obtain ⟨m2, h1, h2⟩ := SE.put i b (by simpa using hi) r
    exact ⟨fun x => _ + m2 x, .yes a h1 fun x => Nat.add_left_comm _ _ _, fun x => by have := c x; have := h2 x; simp only; omega⟩
/-- forgetting -/
def le1 : Option Ty → Option Ty → Bool
  | none, _ => true
  | some a, some b => decide (a = b)
  | some _, none => false
def TyEnv.le : TyEnv → TyEnv → Bool
  | [], [] => true
  | a :: as, b :: bs => le1 a b && TyEnv.le as bs
  | _, _ => false
theorem SE.le (h : SE F H z Γ ρ σ m) (e : TyEnv.le Γ' Γ = true) : ∃ m2 : Ow, SE F H z Γ' ρ σ m2 ∧ ∀ b, m2 b ≤ m b := by
  induction h generalizing Γ' with
  | nil q =>
    cases Γ' with
    | nil => exact ⟨_, .nil q, fun _ => Nat.le_refl _⟩
    | cons a as => simp [TyEnv.le] at e
  | no a ih =>
    cases Γ' with
    | nil => simp [TyEnv.le] at e
    | cons x xs =>
      cases x with
      | none =>
        obtain ⟨m2, h1, h2⟩ := ih (by simpa [TyEnv.le, le1] using e)
        exact ⟨m2, .no h1, h2⟩
      | some t => simp [TyEnv.le, le1] at e
  | yes a b c ih =>
    cases Γ' with
    | nil => simp [TyEnv.le] at e
    | cons x xs =>
      cases x with
      | none =>
        obtain ⟨m2, h1, h2⟩ := ih (by simpa [TyEnv.le, le1] using e)
        exact ⟨m2, .no h1, fun x => by have := c x; have := h2 x; omega⟩
      | some t =>
        simp [TyEnv.le, le1] at e
        obtain ⟨rfl, e'⟩ := e
        obtain ⟨m2, h1, h2⟩ := ih e'
        exact ⟨fun x => _ + m2 x, .yes a h1 fun _ => rfl, fun x => by have := c x; have := h2 x; simp only; omega⟩
variable {τs : List Ty}
theorem RA.eqm (h : RA F H z τs ds vs m) (e : ∀ b, m' b = m b) : RA F H z τs ds vs m' := by
  cases h with
  | nil q => exact .nil fun b => by rw [e, q]
  | cons a b c => exact .cons a b fun x => by rw [e, c]
theorem RA.ext (h : RA F H z τs ds vs m) (hk : Ext H H') (hz : ∀ b, z b → z' b) : RA F H' z' τs ds vs m := by
  induction h with
  | nil q => exact .nil q
  | cons a b c ih => exact .cons (a.ext hk hz) ih c
theorem RA.length (h : RA F H z τs ds vs m) : τs.length = vs.length ∧ ds.length = vs.length := by
  induction h with
  | nil _ => exact ⟨rfl, rfl⟩
  | cons _ _ _ ih => simp [ih.1, ih.2]
/-- all coerced to one type -/
theorem RA.co (h : RA F H z τs ds vs m) (e : (τs.all fun t => sub t τ') = true) (h1 : ∀ a, m a ≤ 1) : Co F H z τ' ds vs m := by
  induction h with
  | nil q => exact ⟨_, fun _ => Nat.le_refl _, fun _ _ _ => .nil q⟩
  | cons a b c ih =>
    rw [List.all_cons, Bool.and_eq_true] at e
    obtain ⟨ma, la, ka⟩ := sub_co _ _ e.1 a fun x => by have := c x; have := h1 x; omega
    obtain ⟨mb, lb, kb⟩ := ih e.2 fun x => by have := c x; have := h1 x; omega
    refine ⟨fun x => ma x + mb x, fun x => by have := c x; have := la x; have := lb x; simp only; omega, fun z'' hz hm => RL.cons' (ka z'' hz fun x p q => ?_) (kb z'' hz fun x p q => ?_) fun _ => rfl⟩
    · exact hm x (by have := c x; omega) (by have := c x; have := h1 x; have := la x; have := lb x; simp only; omega)
    · exact hm x (by have := c x; omega) (by have := c x; have := h1 x; have := la x; have := lb x; simp only; omega)
end En

set_option Elab.async false
set_option linter.all false
set_option autoImplicit false
set_option maxRecDepth 100000
namespace En
open PySem PySem.Spec PyProof.Rows L2

/-! ## readings over data -/
/-- what is fixed through a def: the names, what the module holds -/
structure Gx where
  P : Program
  w : World
  K : Frag
  mg : Str → Option Value
  base : Heap
  N : List Str
abbrev Gx.F (G : Gx) : Fx := ⟨G.K, G.w⟩
/-- an exception, as it lies -/
def XRep (G : Gx) (x : Exc) (c : Value) (dx : Option Addr) (H : Hp) : Prop :=
  G.mg x.cls = some c ∧ match x.pay with
    | none => dx = none
    | some (f, d) => ∃ a v, dx = some a ∧ H a = some (.xd [(f, v)]) ∧ Rp G.F H (fun _ => False) .I d v fun _ => 0
def XOk (G : Gx) (W : WX) (σ : L2.St) (H : Hp) (x : Exc) : Prop := ∀ c dx H', XRep G x c dx H' → Ext H H' → W c dx σ H'
theorem XOk.ext {G : Gx} {W : WX} {σ : L2.St} {H H' : Hp} {x : Exc} (h : XOk G W σ H x) (e : Ext H H') : XOk G W σ H' x := fun c dx H2 r e2 => h c dx H2 r (e.trans e2)
def EvE (G : Gx) (W : WX) (t : TE) (Γ Γ' : TyEnv) (τ : Ty) (f : Env → Res D) : Prop :=
  ∀ (ρ : Env) (σ : L2.St) (H : Hp) (z : Addr → Prop) (m : Ow), SE G.F H z Γ ρ σ m → Ok H z m → ∀ Q : VK,
    (f ρ).post (fun d => ∀ (v : V) (H' : Hp) (z' : Addr → Prop) (m1 mv : Ow), SE G.F H' z' Γ' ρ σ m1 → Rp G.F H' z' τ d v mv → Stp H z m H' z' (fun a => m1 a + mv a) → Ext H H' → Q v H') (XOk G W σ H) → t σ H Q
def EvA (G : Gx) (W : WX) (t : TA) (Γ Γ' : TyEnv) (τs : List Ty) (f : Env → Res (List D)) : Prop :=
  ∀ (ρ : Env) (σ : L2.St) (H : Hp) (z : Addr → Prop) (m : Ow), SE G.F H z Γ ρ σ m → Ok H z m → ∀ Q : List V → Hp → Prop,
    (f ρ).post (fun ds => ∀ (vs : List V) (H' : Hp) (z' : Addr → Prop) (m1 mv : Ow), SE G.F H' z' Γ' ρ σ m1 → RA G.F H' z' τs ds vs mv → Stp H z m H' z' (fun a => m1 a + mv a) → Ext H H' → Q vs H') (XOk G W σ H) → t σ H Q
def EvT (G : Gx) (W : WX) (t : TT) (Γ : TyEnv) (f : Env → Res Bool) : Prop :=
  ∀ (ρ : Env) (σ : L2.St) (H : Hp) (z : Addr → Prop) (m : Ow), SE G.F H z Γ ρ σ m → Ok H z m → ∀ Q : Bool → Hp → Prop,
    (f ρ).post (fun b => ∀ (H' : Hp) (z' : Addr → Prop) (m1 : Ow), SE G.F H' z' Γ ρ σ m1 → Stp H z m H' z' m1 → Ext H H' → Q b H') (XOk G W σ H) → t σ H Q
/-- an operation by values -/
def OpS (F : Fx) (r : List V → Hp → VK → Prop) (τs : List Ty) (τ : Ty) (g : List D → Option D) : Prop :=
  ∀ (H : Hp) (z : Addr → Prop) (mv : Ow) (ds : List D) (vs : List V) (d : D) (Q : VK), RA F H z τs ds vs mv → Ok H z mv → g ds = some d →
    (∀ (v : V) (H' : Hp) (z' : Addr → Prop) (m' : Ow), Rp F H' z' τ d v m' → Stp H z mv H' z' m' → Ext H H' → Q v H') → r vs H Q
variable {G : Gx} {W : WX} {H H' H'' : Hp} {z z' z'' : Addr → Prop} {τ τ' : Ty} {d : D} {v : V} {ds : List D} {vs : List V} {m m' m1 m2 m0 : Ow} {Γ Γ' Γ'' Γ1 Γ2 : TyEnv} {ρ ρ' : Env} {σ σ' : L2.St} {τs : List Ty}
theorem EvA.nil : EvA G W tNil Γ Γ [] fun _ => .ok [] := by
  intro ρ σ H z m se ok Q h
  exact h [] H z m (fun _ => 0) se (.nil fun _ => rfl) (by simpa using Stp.refl ok) Ext.refl
theorem EvA.cons {te : TE} {ta : TA} {f : Env → Res D} {g : Env → Res (List D)} (he : EvE G W te Γ Γ1 τ f) (ha : EvA G W ta Γ1 Γ2 τs g) :
    EvA G W (tCons te ta) Γ Γ2 (τ :: τs) fun ρ => (f ρ).bind fun d => (g ρ).bind fun ds => .ok (d :: ds) := by
  intro ρ σ H z m se ok Q h
  rw [Res.post_bind] at h
  refine he ρ σ H z m se ok _ (Res.post_mono h (fun d h v H1 z1 m1 mv se1 r1 st1 ex1 => ?_) fun _ h => h)
  rw [Res.post_bind] at h
  refine ha ρ σ H1 z1 m1 se1 (st1.ok.drop fun b => Nat.le_add_right _ _) _ (Res.post_mono h (fun ds h vs H2 z2 m2 mw se2 r2 st2 ex2 => ?_) fun _ h => h.ext ex1)
  have st3 := st2.frame st1.ok
  exact h (v :: vs) H2 z2 m2 (fun a => mv a + mw a) se2 (.cons (r1.ext ex2 st2.zz) r2 fun _ => rfl) ((st1.trans st3).eqm (fun _ => rfl) fun b => by omega) (ex1.trans ex2)
theorem EvA.op {ta : TA} {f : Env → Res (List D)} {g : List D → Option D} {r : List V → Hp → VK → Prop} (ha : EvA G W ta Γ Γ1 τs f) (ho : OpS G.F r τs τ g) : EvE G W (tCB r ta) Γ Γ1 τ fun ρ => (f ρ).bind fun ds => .of (g ds) := by
  intro ρ σ H z m se ok Q h
  rw [Res.post_bind] at h
  refine ha ρ σ H z m se ok _ (Res.post_mono h (fun ds h vs H1 z1 m1 mv se1 r1 st1 ex1 => ?_) fun _ h => h)
  rw [Res.post_of] at h
  obtain ⟨d, e, h⟩ := h
  refine ho H1 z1 mv ds vs d Q r1 (st1.ok.drop fun b => Nat.le_add_left _ _) e fun v H2 z2 m2 r2 st2 ex2 => ?_
  have st3 := st2.frame (r := m1) (st1.ok.eqm fun b => by omega)
  exact h v H2 z2 m1 m2 (se1.ext ex2 st2.zz) r2 (st1.trans (st3.eqm (m3 := fun a => m1 a + mv a) (m4 := fun a => m1 a + m2 a) (fun b => by omega) fun b => by omega)) (ex1.trans ex2)
/-- coerced -/
theorem EvE.sub {te : TE} {f : Env → Res D} (he : EvE G W te Γ Γ1 τ f) (e : sub τ τ' = true) : EvE G W te Γ Γ1 τ' f := by
  intro ρ σ H z m se ok Q h
  refine he ρ σ H z m se ok _ (Res.post_mono h (fun d h v H1 z1 m1 mv se1 r1 st1 ex1 => ?_) fun _ h => h)
  obtain ⟨z2, mv', r2, st2⟩ := sub_step e r1 (st1.ok.drop fun b => Nat.le_add_left _ _)
  have st3 := st2.frame (r := m1) (st1.ok.eqm fun b => by omega)
  exact h v H1 z2 m1 mv' (se1.ext (fun _ _ q => q) st2.zz) r2 (st1.trans (st3.eqm (m3 := fun a => m1 a + mv a) (m4 := fun a => m1 a + mv' a) (fun b => by omega) fun b => by omega)) ex1
/-- the value as an atom or an immutable thing -/
theorem Nd.imm {ds' vs'} (h : Nd G.F H z τ d v τ' ds' vs' m0) (hi : imm d = true) (hr : immAll ds' = true → RL G.F H z τ' ds' vs' m1 → RL G.F H z' .I ds' vs' fun _ => 0) (r : RL G.F H z τ' ds' vs' m1) : Rp G.F H z' .I d v fun _ => 0 := by
  have nl : ∀ t, RL G.F H z' t [] [] fun _ => 0 := fun t => .nil fun _ => rfl
  cases h with
  | non _ => exact .cons (.non (m := fun _ => 0) fun _ => rfl) (nl _) (nl _) fun _ => rfl
  | bl _ => exact .cons (.bl (m := fun _ => 0) fun _ => rfl) (nl _) (nl _) fun _ => rfl
  | int _ => exact .cons (.int (m := fun _ => 0) fun _ => rfl) (nl _) (nl _) fun _ => rfl
  | str _ => exact .cons (.str (m := fun _ => 0) fun _ => rfl) (nl _) (nl _) fun _ => rfl
  | tup h _ => exact .cons (.tup (m := fun _ => 0) h fun _ => rfl) (hr (by simpa [En.imm] using hi) r) (nl _) fun _ => rfl
  | lst _ => simp [En.imm] at hi
  | dk _ _ _ => simp [En.imm] at hi
  | dt _ _ _ _ => simp [En.imm] at hi
theorem RL.imm (h : RL G.F H z τ ds vs m) (hi : immAll ds = true) (z' : Addr → Prop) : RL G.F H z' .I ds vs fun _ => 0 := by
  induction h with
  | nil _ => exact .nil fun _ => rfl
  | cons a b c q ih1 ih2 =>
    rw [immAll, Bool.and_eq_true] at hi
    exact RL.cons' (m1 := fun _ => 0) (m2 := fun _ => 0) (a.imm hi.1 (fun e _ => ih1 e) b) (ih2 hi.2) fun _ => rfl
theorem Rp.imm (h : Rp G.F H z τ d v m) (hi : En.imm d = true) (z' : Addr → Prop) : Rp G.F H z' .I d v fun _ => 0 := RL.imm h (by simp [immAll, hi]) z'
theorem EvE.imm {te : TE} {f : Env → Res D} (he : EvE G W te Γ Γ1 τ f) : EvE G W te Γ Γ1 .I fun ρ => (f ρ).bind fun d => if En.imm d then .ok d else .bad := by
  intro ρ σ H z m se ok Q h
  rw [Res.post_bind] at h
  refine he ρ σ H z m se ok _ (Res.post_mono h (fun d h v H1 z1 m1 mv se1 r1 st1 ex1 => ?_) fun _ h => h)
  by_cases hd : En.imm d = true
  · rw [if_pos hd] at h
    exact h v H1 z1 m1 (fun _ => 0) se1 (r1.imm hd z1) (st1.drop fun b => by simp) ex1
  · rw [if_neg hd] at h
    exact h.elim
/-- read: what is owned stays with its slot -/
theorem EvE.var {i : Nat} (hi : Γ[i]? = some (some τ)) : EvE G W (tVar i) Γ Γ (rd τ) fun ρ => .ok (ρ.getD i .none) := by
  intro ρ σ H z m se ok Q h
  obtain ⟨v, m1, m2, h1, h2, _, _⟩ := se.get hi
  exact ⟨v, h1, h v H z m (fun _ => 0) se h2.rdd (by simpa using Stp.refl ok) Ext.refl⟩
/-- moved out of its slot -/
theorem EvE.mv {i : Nat} (hi : Γ[i]? = some (some τ)) : EvE G W (tVar i) Γ (Γ.set i none) τ fun ρ => .ok (ρ.getD i .none) := by
  intro ρ σ H z m se ok Q h
  obtain ⟨v, m1, m2, h1, h2, h3, h4⟩ := se.get hi
  exact ⟨v, h1, h v H z m2 m1 h3 h2 ((Stp.refl ok).eqm (fun _ => rfl) fun b => by rw [h4]; omega) Ext.refl⟩
def atomV : D → Option V
  | .none => some .non
  | .bool b => some (.bl b)
  | .int i => some (.int i)
  | .str s => some (.str s)
  | _ => none
theorem Rp.atom (h : atomV d = some v) : Rp G.F H z τ d v fun _ => 0 := by
  have nl : ∀ t, RL G.F H z t [] [] fun _ => 0 := fun t => .nil fun _ => rfl
  cases d <;> simp [atomV] at h <;> subst h
  · exact .cons (.non (m := fun _ => 0) fun _ => rfl) (nl _) (nl _) fun _ => rfl
  · exact .cons (.bl (m := fun _ => 0) fun _ => rfl) (nl _) (nl _) fun _ => rfl
  · exact .cons (.int (m := fun _ => 0) fun _ => rfl) (nl _) (nl _) fun _ => rfl
  · exact .cons (.str (m := fun _ => 0) fun _ => rfl) (nl _) (nl _) fun _ => rfl
theorem Rp.atom_inv (h : Rp G.F H z τ d v m) (ha : (atomV d).isSome = true) : atomV d = some v := by
  cases h with
  | cons a _ _ _ => cases a <;> first | rfl | simp [atomV] at ha
theorem Rp.int_inv {i : Int} (h : Rp G.F H z τ (.int i) v m) : v = .int i := (Option.some.inj (Rp.atom_inv h rfl)).symm
theorem Rp.bl_inv {i : Bool} (h : Rp G.F H z τ (.bool i) v m) : v = .bl i := (Option.some.inj (Rp.atom_inv h rfl)).symm
theorem Rp.str_inv {i : Str} (h : Rp G.F H z τ (.str i) v m) : v = .str i := (Option.some.inj (Rp.atom_inv h rfl)).symm
theorem Rp.non_inv (h : Rp G.F H z τ .none v m) : v = .non := (Option.some.inj (Rp.atom_inv h rfl)).symm
theorem EvE.const {k : Kt} {v : V} (h : atomV k.d = some v) : EvE G W (tC v) Γ Γ .I fun _ => .ok k.d := by
  intro ρ σ H z m se ok Q hq
  exact hq v H z m (fun _ => 0) se (Rp.atom h) (by simpa using Stp.refl ok) Ext.refl
theorem Box.sqL {K : Frag} {q : Md} {a : Addr} (h : Box K H z a (.lst vs) (KL K a vs) q m) : SqL K H a vs := by
  cases q with
  | r => exact h.1
  | f => exact h.1.imp (fun q => q.1) id
  | o => exact .inl (.inl h.1)
theorem Rp.list_inv {xs : List D} (h : Rp G.F H z τ (.list xs) v m) : ∃ q t a vs m0 m1, τ = .N q t ∧ v = .ref a ∧ Box G.K H z a (.lst vs) (KL G.K a vs) q m0 ∧ RL G.F H z t xs vs m1 ∧ ∀ b, m b = m0 b + m1 b := by
  cases h with
  | cons a b c q =>
    cases c with
    | nil e =>
      cases a with
      | lst h => exact ⟨_, _, _, _, _, _, rfl, rfl, h, b, fun x => by have := q x; have := e x; omega⟩
theorem Rp.tup_inv {xs : List D} (h : Rp G.F H z τ (.tuple xs) v m) : ∃ a vs, v = .ref a ∧ SqT G.K H a vs ∧ RL G.F H z τ xs vs m := by
  cases h with
  | cons a b c q =>
    cases c with
    | nil e =>
      cases a with
      | tup h e' => exact ⟨_, _, rfl, h, b.eqm fun x => by have := q x; have := e x; have := e' x; omega⟩
theorem Rp.mkT {a : Addr} (h : SqT G.K H a vs) (r : RL G.F H z τ ds vs m) : Rp G.F H z τ (.tuple ds) (.ref a) m :=
  .cons (.tup (m := fun _ => 0) h fun _ => rfl) r (.nil (m := fun _ => 0) fun _ => rfl) fun b => by omega
theorem Rp.mkL {q : Md} {t : Ty} {a : Addr} (h : Box G.K H z a (.lst vs) (KL G.K a vs) q m0) (r : RL G.F H z t ds vs m1) (e : ∀ b, m b = m0 b + m1 b) : Rp G.F H z (.N q t) (.list ds) (.ref a) m :=
  .cons (.lst h) r (.nil (m := fun _ => 0) fun _ => rfl) fun b => by have := e b; omega
mutual
/-- no dict within -/
def noD : D → Bool
  | .dict _ => false
  | .list xs => noDs xs
  | .tuple xs => noDs xs
  | .none => true
  | .bool _ => true
  | .int _ => true
  | .str _ => true
def noDs : List D → Bool
  | [] => true
  | x :: xs => noD x && noDs xs
end
mutual
theorem noD_lay : ∀ d : D, d.canLay0 = true → noD d = true
  | .dict _, h => by simp [PyData.canLay0] at h
  | .list xs, h => noDs_lay xs (by simpa [PyData.canLay0] using h)
  | .tuple xs, h => noDs_lay xs (by simpa [PyData.canLay0] using h)
  | .none, _ => rfl
  | .bool _, _ => rfl
  | .int _, _ => rfl
  | .str _, _ => rfl
theorem noDs_lay : ∀ ds : List D, PyData.canLayAll0 ds = true → noDs ds = true
  | [], _ => rfl
  | d :: ds, h => by
    have h' : d.canLay0 = true ∧ PyData.canLayAll0 ds = true := by simpa [PyData.canLayAll0] using h
    show (noD d && noDs ds) = true
    rw [noD_lay d h'.1, noDs_lay ds h'.2]
    rfl
end
mutual
theorem noD_alike : ∀ d : D, PySem.W.alike d d = true → noD d = true
  | .dict _, h => by simp [PySem.W.alike] at h
  | .list xs, h => noDs_alike xs (by simpa [PySem.W.alike] using h)
  | .tuple xs, h => noDs_alike xs (by simpa [PySem.W.alike] using h)
  | .none, _ => rfl
  | .bool _, _ => rfl
  | .int _, _ => rfl
  | .str _, _ => rfl
theorem noDs_alike : ∀ ds : List D, PySem.W.alikeAll ds ds = true → noDs ds = true
  | [], _ => rfl
  | d :: ds, h => by
    have h' : PySem.W.alike d d = true ∧ PySem.W.alikeAll ds ds = true := by simpa [PySem.W.alikeAll] using h
    show (noD d && noDs ds) = true
    rw [noD_alike d h'.1, noDs_alike ds h'.2]
    rfl
end
/-- what has no dict reads as data -/
theorem RL.dpn (h : RL G.F H z τ ds vs m) (c : noDs ds = true) : DpAll G.K H vs ds := by
  induction h with
  | nil _ => exact .nil
  | cons a b c' q ih1 ih2 =>
    rename_i τ1 d v ds vs ds' vs' m m0 m1 m2
    have hc : noD d = true ∧ noDs ds = true := by simpa [noDs] using c
    refine .cons ?_ (ih2 hc.2)
    cases a with
    | non h => exact .non
    | bl h => exact .bl _
    | int h => exact .int _
    | str h => exact .str _
    | tup h e => exact .tup h (ih1 (by simpa [noD] using hc.1))
    | lst h => exact .lst (Box.sqL h) (ih1 (by simpa [noD] using hc.1))
    | dk _ _ h => simp [noD] at hc
    | dt _ _ _ h => simp [noD] at hc
theorem RL.dp (h : RL G.F H z τ ds vs m) (c : PyData.canLayAll0 ds = true) : DpAll G.K H vs ds := h.dpn (noDs_lay _ c)
theorem Rp.dp (h : Rp G.F H z τ d v m) (c : d.canLay0 = true) : Dp G.K H v d := by
  have q := RL.dp h (by simp [PyData.canLayAll0, c])
  cases q with
  | cons a _ => exact a
theorem shp_lay (h : shp d = true) : d.canLay0 = true := SeqAt.canLay_of_shaped h

/-! ### tests -/
theorem EvE.test {te : TE} {f : Env → Res D} (he : EvE G W te Γ Γ τ f) : EvT G W (tB te) Γ fun ρ => (f ρ).bind toB := by
  intro ρ σ H z m se ok Q h
  rw [Res.post_bind] at h
  refine he ρ σ H z m se ok _ (Res.post_mono h (fun d h v H1 z1 m1 mv se1 r1 st1 ex1 => ?_) fun _ h => h)
  cases d with
  | bool b => exact ⟨b, Rp.bl_inv r1, h H1 z1 m1 se1 (st1.drop fun _ => Nat.le_add_right _ _) ex1⟩
  | _ => exact h.elim
end En

set_option Elab.async false
set_option linter.all false
set_option autoImplicit false
set_option maxRecDepth 100000
namespace En
open PySem PySem.Spec PyProof.Rows L2
variable {G : Gx} {W : WX} {H H' H'' : Hp} {z z' z'' : Addr → Prop} {τ τ' : Ty} {d : D} {v : V} {ds : List D} {vs : List V} {m m' m1 m2 m0 : Ow} {Γ Γ' Γ'' Γ1 Γ2 : TyEnv} {ρ ρ' : Env} {σ σ' : L2.St} {τs : List Ty}

/-! ## a new object -/
theorem Ext.new {p : Addr} {o : HO} (hp : H p = none) : Ext H (upd H p o) := fun b u e => by rw [upd_ne (ne_of_none e hp)]; exact e
theorem Ok.zero_at {p : Addr} (ok : Ok H z m) (hp : H p = none) : m p = 0 := by
  have h := ok p
  rcases Nat.lt_or_ge (m p) 1 with h1 | h1
  · omega
  · have mu := (h.2.1 (by omega)).2
    rw [hp] at mu
    exact mu.elim
theorem Ok.nz_at {p : Addr} (ok : Ok H z m) (hp : H p = none) : ¬ z p := fun q => (ok p).2.2 q hp
theorem Ok.ext {p : Addr} {o : HO} (ok : Ok H z m) (hp : H p = none) : Ok (upd H p o) z m := fun a => by
  have h := ok a
  by_cases ha : a = p
  · subst ha
    have := ok.zero_at hp
    refine ⟨by omega, fun q => by omega, fun q => absurd q (ok.nz_at hp)⟩
  · rw [upd_ne ha]; exact h
theorem Ok.own {p : Addr} {o : HO} (ok : Ok H z m) (hp : H p = none) (mu : Mut (some o)) : Ok (upd H p o) z (fun a => one p a + m a) := fun a => by
  by_cases ha : a = p
  · subst ha
    have h0 := ok.zero_at hp
    refine ⟨by simp [one, h0], fun _ => ⟨ok.nz_at hp, by rw [upd_same]; exact mu⟩, fun q => absurd q (ok.nz_at hp)⟩
  · rw [upd_ne ha]
    have : one p a = 0 := by simp [one, ha]
    simp only [this, Nat.zero_add]
    exact ok a
theorem Stp.ext {p : Addr} {o : HO} (st : Stp H z m H' z' m') (hp : H' p = none) : Stp H z m (upd H' p o) z' m' where
  keep := fun a u e h => Ext.new hp a u (st.keep a u e h)
  live := fun a h => by
    have := st.live a h
    cases e : H' a with
    | none => exact absurd e this
    | some u => rw [Ext.new hp a u e]; simp
  zz := st.zz
  dec := st.dec
  ok := st.ok.ext hp
theorem Stp.own {p : Addr} {o : HO} (st : Stp H z m H' z' m') (hp : H' p = none) (mu : Mut (some o)) : Stp H z m (upd H' p o) z' (fun a => one p a + m' a) where
  keep := fun a u e h => Ext.new hp a u (st.keep a u e h)
  live := (st.ext hp).live
  zz := st.zz
  dec := fun a h => by
    have h1 := st.dec a h
    have hne : a ≠ p := fun e => st.live a h (e ▸ hp)
    have : one p a = 0 := by simp [one, hne]
    simp only [this, Nat.zero_add]
    exact h1
  ok := st.ok.own hp mu
theorem Ext.upd' {p : Addr} {o : HO} (ex : Ext H H') (hp : H' p = none) : Ext H (upd H' p o) := ex.trans (Ext.new hp)
theorem RL.new {p : Addr} {o : HO} (h : RL G.F H z τ ds vs m) (hp : H p = none) : RL G.F (upd H p o) z τ ds vs m := h.ext (Ext.new hp) fun _ q => q
theorem SE.new {p : Addr} {o : HO} (h : SE G.F H z Γ ρ σ m) (hp : H p = none) : SE G.F (upd H p o) z Γ ρ σ m := h.ext (Ext.new hp) fun _ q => q
theorem one_self (p : Addr) : one p p = 1 := by simp [one]

theorem EvA.tup {ta : TA} {f : Env → Res (List D)} (ha : EvA G W ta Γ Γ1 τs f) (hs : (τs.all fun t => En.sub t τ) = true) (hl : τs.length ≤ 1000) : EvE G W (tTup ta) Γ Γ1 τ fun ρ => (f ρ).map .tuple := by
  intro ρ σ H z m se ok Q h
  rw [Res.post_map] at h
  refine ha ρ σ H z m se ok _ (Res.post_mono h (fun ds h vs H1 z1 m1 mv se1 r1 st1 ex1 => ?_) fun _ h => h)
  have okv : Ok H1 z1 mv := st1.ok.drop fun b => Nat.le_add_left _ _
  refine ⟨?_, fun p hp => ?_⟩
  · have := r1.length
    have := small1000 hl
    omega
  obtain ⟨z2, mv', r2, st2⟩ := (r1.co hs fun a => (okv a).1).step okv
  have st3 := st2.frame (r := m1) (st1.ok.eqm fun b => by omega)
  have st4 : Stp H z m H1 z2 (fun a => m1 a + mv' a) := st1.trans (st3.eqm (m3 := fun a => m1 a + mv a) (m4 := fun a => m1 a + mv' a) (fun b => by omega) fun b => by omega)
  exact h (.ref p) _ z2 m1 mv' ((se1.ext (fun _ _ q => q) st2.zz).new hp) (Rp.mkT (.inl (.inl upd_same)) (r2.new hp)) (st4.ext hp) (ex1.upd' hp)
theorem EvA.lst {ta : TA} {f : Env → Res (List D)} (ha : EvA G W ta Γ Γ1 τs f) (hs : (τs.all fun t => En.sub t τ) = true) (hl : τs.length ≤ 1000) : EvE G W (tLst ta) Γ Γ1 (.N .o τ) fun ρ => (f ρ).map .list := by
  intro ρ σ H z m se ok Q h
  rw [Res.post_map] at h
  refine ha ρ σ H z m se ok _ (Res.post_mono h (fun ds h vs H1 z1 m1 mv se1 r1 st1 ex1 => ?_) fun _ h => h)
  have okv : Ok H1 z1 mv := st1.ok.drop fun b => Nat.le_add_left _ _
  refine ⟨?_, fun p hp => ?_⟩
  · have := r1.length
    have := small1000 hl
    omega
  obtain ⟨z2, mv', r2, st2⟩ := (r1.co hs fun a => (okv a).1).step okv
  have st3 := st2.frame (r := m1) (st1.ok.eqm fun b => by omega)
  have st4 : Stp H z m H1 z2 (fun a => m1 a + mv' a) := st1.trans (st3.eqm (m3 := fun a => m1 a + mv a) (m4 := fun a => m1 a + mv' a) (fun b => by omega) fun b => by omega)
  exact h (.ref p) _ z2 m1 (fun a => one p a + mv' a) ((se1.ext (fun _ _ q => q) st2.zz).new hp) (Rp.mkL ⟨upd_same, fun _ => rfl⟩ (r2.new hp) fun _ => rfl)
    ((st4.own hp (show Mut (some (.lst vs)) from trivial)).eqm (fun _ => rfl) fun b => by omega) (ex1.upd' hp)
theorem EvE.dnew {t : Ty} : EvE G W tDNewK Γ Γ (.N .o t) fun _ => .ok (.dict []) := by
  intro ρ σ H z m se ok Q h p hp
  refine h (.ref p) _ z m (one p) (se.new hp) (.cons (.dk (hk := []) (m := one p) (ds := []) .nil rfl ⟨upd_same, fun _ => rfl⟩) (.nil (m := fun _ => 0) fun _ => rfl) (.nil (m := fun _ => 0) fun _ => rfl) fun _ => rfl)
    (((Stp.refl ok).own hp (show Mut (some (.dK [])) from trivial)).eqm (fun _ => rfl) fun b => by omega) (Ext.new hp)

/-! ## and, or, not, chains -/
variable {te tb tc : TE} {f g k : Env → Res D}
theorem EvE.and (ha : EvE G W te Γ Γ .I f) (hb : EvE G W tb Γ Γ τ g) : EvE G W (tAndV te tb) Γ Γ τ fun ρ => (f ρ).bind fun d => (toB d).bind fun x => if x then g ρ else .ok (.bool false) := by
  intro ρ σ H z m se ok Q h
  rw [Res.post_bind] at h
  refine ha ρ σ H z m se ok _ (Res.post_mono h (fun d h v H1 z1 m1 mv se1 r1 st1 ex1 => ?_) fun _ h => h)
  have st1' : Stp H z m H1 z1 m1 := st1.drop fun _ => Nat.le_add_right _ _
  cases d with
  | bool b =>
    refine ⟨b, Rp.bl_inv r1, ?_⟩
    cases b with
    | true =>
      simp only [toB, Res.bind_ok, if_true] at h ⊢
      exact hb ρ σ H1 z1 m1 se1 st1'.ok _ (Res.post_mono h (fun d h v H2 z2 m2 mw se2 r2 st2 ex2 => h v H2 z2 m2 mw se2 r2 (st1'.trans st2) (ex1.trans ex2)) fun _ h => h.ext ex1)
    | false =>
      simp only [toB, Res.bind_ok, Bool.false_eq_true, if_false] at h ⊢
      exact h (.bl false) H1 z1 m1 (fun _ => 0) se1 (Rp.atom rfl) st1' ex1
  | _ => exact h.elim
theorem EvE.or (ha : EvE G W te Γ Γ .I f) (hb : EvE G W tb Γ Γ τ g) : EvE G W (tOrV te tb) Γ Γ τ fun ρ => (f ρ).bind fun d => (toB d).bind fun x => if x then .ok (.bool true) else g ρ := by
  intro ρ σ H z m se ok Q h
  rw [Res.post_bind] at h
  refine ha ρ σ H z m se ok _ (Res.post_mono h (fun d h v H1 z1 m1 mv se1 r1 st1 ex1 => ?_) fun _ h => h)
  have st1' : Stp H z m H1 z1 m1 := st1.drop fun _ => Nat.le_add_right _ _
  cases d with
  | bool b =>
    refine ⟨b, Rp.bl_inv r1, ?_⟩
    cases b with
    | false =>
      simp only [toB, Res.bind_ok, Bool.false_eq_true, if_false] at h ⊢
      exact hb ρ σ H1 z1 m1 se1 st1'.ok _ (Res.post_mono h (fun d h v H2 z2 m2 mw se2 r2 st2 ex2 => h v H2 z2 m2 mw se2 r2 (st1'.trans st2) (ex1.trans ex2)) fun _ h => h.ext ex1)
    | true =>
      simp only [toB, Res.bind_ok, if_true] at h ⊢
      exact h (.bl true) H1 z1 m1 (fun _ => 0) se1 (Rp.atom rfl) st1' ex1
  | _ => exact h.elim
theorem EvE.not (ha : EvE G W te Γ Γ τ f) : EvE G W (tNotV te) Γ Γ .I fun ρ => (f ρ).bind fun d => (toB d).bind fun x => .ok (.bool !x) := by
  intro ρ σ H z m se ok Q h
  rw [Res.post_bind] at h
  refine ha ρ σ H z m se ok _ (Res.post_mono h (fun d h v H1 z1 m1 mv se1 r1 st1 ex1 => ?_) fun _ h => h)
  have st1' : Stp H z m H1 z1 m1 := st1.drop fun _ => Nat.le_add_right _ _
  cases d with
  | bool b => exact ⟨b, Rp.bl_inv r1, h (.bl !b) H1 z1 m1 (fun _ => 0) se1 (Rp.atom rfl) st1' ex1⟩
  | _ => exact h.elim
theorem EvE.ite {tt : TT} {b : Env → Res Bool} (ht : EvT G W tt Γ b) (ha : EvE G W te Γ Γ1 τ f) (hb : EvE G W tb Γ Γ1 τ g) : EvE G W (tIf tt te tb) Γ Γ1 τ fun ρ => (b ρ).bind fun x => if x then f ρ else g ρ := by
  intro ρ σ H z m se ok Q h
  rw [Res.post_bind] at h
  refine ht ρ σ H z m se ok _ (Res.post_mono h (fun x h H1 z1 m1 se1 st1 ex1 => ?_) fun _ h => h)
  cases x with
  | true =>
    simp only [if_true] at h ⊢
    exact ha ρ σ H1 z1 m1 se1 st1.ok _ (Res.post_mono h (fun d h v H2 z2 m2 mw se2 r2 st2 ex2 => h v H2 z2 m2 mw se2 r2 (st1.trans st2) (ex1.trans ex2)) fun _ h => h.ext ex1)
  | false =>
    simp only [Bool.false_eq_true, if_false] at h ⊢
    exact hb ρ σ H1 z1 m1 se1 st1.ok _ (Res.post_mono h (fun d h v H2 z2 m2 mw se2 r2 st2 ex2 => h v H2 z2 m2 mw se2 r2 (st1.trans st2) (ex1.trans ex2)) fun _ h => h.ext ex1)
theorem EvT.and {tt tu : TT} {a b : Env → Res Bool} (ha : EvT G W tt Γ a) (hb : EvT G W tu Γ b) : EvT G W (tAnd tt tu) Γ fun ρ => (a ρ).bind fun x => if x then b ρ else .ok false := by
  intro ρ σ H z m se ok Q h
  rw [Res.post_bind] at h
  refine ha ρ σ H z m se ok _ (Res.post_mono h (fun x h H1 z1 m1 se1 st1 ex1 => ?_) fun _ h => h)
  cases x with
  | true =>
    simp only [if_true] at h ⊢
    exact hb ρ σ H1 z1 m1 se1 st1.ok _ (Res.post_mono h (fun y h H2 z2 m2 se2 st2 ex2 => h H2 z2 m2 se2 (st1.trans st2) (ex1.trans ex2)) fun _ h => h.ext ex1)
  | false =>
    simp only [Bool.false_eq_true, if_false] at h ⊢
    exact h H1 z1 m1 se1 st1 ex1
theorem EvT.or {tt tu : TT} {a b : Env → Res Bool} (ha : EvT G W tt Γ a) (hb : EvT G W tu Γ b) : EvT G W (tOr tt tu) Γ fun ρ => (a ρ).bind fun x => if x then .ok true else b ρ := by
  intro ρ σ H z m se ok Q h
  rw [Res.post_bind] at h
  refine ha ρ σ H z m se ok _ (Res.post_mono h (fun x h H1 z1 m1 se1 st1 ex1 => ?_) fun _ h => h)
  cases x with
  | false =>
    simp only [Bool.false_eq_true, if_false] at h ⊢
    exact hb ρ σ H1 z1 m1 se1 st1.ok _ (Res.post_mono h (fun y h H2 z2 m2 se2 st2 ex2 => h H2 z2 m2 se2 (st1.trans st2) (ex1.trans ex2)) fun _ h => h.ext ex1)
  | true =>
    simp only [if_true] at h ⊢
    exact h H1 z1 m1 se1 st1 ex1
theorem EvT.not {tt : TT} {a : Env → Res Bool} (ha : EvT G W tt Γ a) : EvT G W (tNot tt) Γ fun ρ => (a ρ).bind fun x => .ok !x := by
  intro ρ σ H z m se ok Q h
  rw [Res.post_bind] at h
  exact ha ρ σ H z m se ok _ (Res.post_mono h (fun x h H1 z1 m1 se1 st1 ex1 => h H1 z1 m1 se1 st1 ex1) fun _ h => h)
/-- the same function by another name -/
theorem EvE.fn {f' : Env → Res D} (h : EvE G W te Γ Γ1 τ f) (e : ∀ ρ, f' ρ = f ρ) : EvE G W te Γ Γ1 τ f' := fun ρ σ H z m se ok Q q => h ρ σ H z m se ok Q (by rw [← e]; exact q)
theorem EvT.fn {tt : TT} {a a' : Env → Res Bool} (h : EvT G W tt Γ a) (e : ∀ ρ, a' ρ = a ρ) : EvT G W tt Γ a' := fun ρ σ H z m se ok Q q => h ρ σ H z m se ok Q (by rw [← e]; exact q)

/-! ## calls -/
/-- a def's promise over data: nothing handed in is owned -/
def spOf (G : Gx) (τs : List Ty) (τ : Ty) (g : Fun) : Sp := fun vs H Q E => ∃ (ds : List D) (z : Addr → Prop), RA G.F H z τs ds vs (fun _ => 0) ∧ (∀ a, z a → H a ≠ none) ∧
  (g ds).post (fun d => ∀ (v : V) (H' : Hp) (z' : Addr → Prop) (m' : Ow), Rp G.F H' z' τ d v m' → Stp H z (fun _ => 0) H' z' m' → Q v H') fun x => ∀ c dx H', XRep G x c dx H' → Ext H H' → E c dx H'
theorem Stp.ext0 (st : Stp H z (fun _ => 0) H' z' m') : Ext H H' := fun a o e => st.keep a o e rfl
/-- what is read, as it is handed in: all that is tracked is frozen -/
def fzT : Ty → Ty
  | .I => .I
  | .N _ t => .N .f (fzT t)
theorem RL.hand (h : RL G.F H z τ ds vs m) : RL G.F H (fun a => H a ≠ none) (fzT τ) ds vs fun _ => 0 := by
  induction h with
  | nil e => exact .nil fun _ => rfl
  | cons a b c q ih1 ih2 =>
    refine RL.cons (m0 := fun _ => 0) (m1 := fun _ => 0) (m2 := fun _ => 0) (τ' := fzT _) ?_ ih1 ih2 fun _ => rfl
    have rz : ∀ {a : Addr} {o : HO}, Rd H a o → H a ≠ none := fun {a o} h => by
      rcases h with h | ⟨_, h⟩ <;> rw [h] <;> simp
    have box : ∀ {q : Md} {a : Addr} {o : HO} {w : Prop} {m : Ow}, Box G.K H z a o w q m → Box G.K H (fun a => H a ≠ none) a o w .f fun _ => 0 := by
      intro q a o w m hb
      cases q with
      | o => exact ⟨.inl ⟨.inl hb.1, rz (.inl hb.1)⟩, fun _ => rfl⟩
      | f => exact ⟨hb.1.imp (fun q => ⟨q.1, rz q.1⟩) id, fun _ => rfl⟩
      | r => exact ⟨hb.1.imp (fun q => ⟨q, rz q⟩) id, fun _ => rfl⟩
    cases a with
    | non h => exact .non fun _ => rfl
    | bl h => exact .bl fun _ => rfl
    | int h => exact .int fun _ => rfl
    | str h => exact .str fun _ => rfl
    | tup h e => exact .tup h fun _ => rfl
    | lst h => exact .lst (box h)
    | dk n l h => exact .dk n l (box h)
    | dt n k l h => exact .dt n k l (box h)
/-- frozen at first sight: no coercion of ownership is needed between f types -/
theorem fz_sub {t' : Ty} (h : RL G.F H z τ ds vs m) (e : En.sub (fzT τ) t' = true) : RL G.F H (fun a => H a ≠ none) t' ds vs fun _ => 0 := by
  have h1 := h.hand
  obtain ⟨m', l, k⟩ := sub_co _ _ e h1 fun _ => Nat.zero_le _
  exact (k _ (fun _ q => q) fun a q => absurd (show 1 ≤ 0 from q) (by decide)).eqm fun b => (Nat.le_zero.mp (l b)).symm
theorem RA.hand : ∀ {τs ts : List Ty} {ds : List D} {vs : List V} {m : Ow}, RA G.F H z τs ds vs m → ((τs.zip ts).all fun p => En.sub (fzT p.1) p.2) = true → τs.length = ts.length → RA G.F H (fun a => H a ≠ none) ts ds vs fun _ => 0
  | _, [], _, _, _, .nil _, _, _ => .nil fun _ => rfl
  | _, [], _, _, _, .cons _ _ _, _, e => by cases e
  | _, _ :: _, _, _, _, .nil _, _, e => by cases e
  | _, t :: ts, _, _, _, .cons a b c, e, l => by
    simp only [List.zip_cons_cons, List.all_cons, Bool.and_eq_true] at e
    exact .cons (fz_sub a e.1) (RA.hand b e.2 (by simpa using l)) fun _ => rfl
/-- the type of what comes back: f within was frozen for the time of the call alone -/
def backT : Ty → Ty
  | .I => .I
  | .N .o t => .N .o (backT t)
  | .N _ t => .N .r (backT t)
theorem RL.back (h : RL G.F H z τ ds vs m) (z' : Addr → Prop) : RL G.F H z' (backT τ) ds vs m := by
  induction h with
  | nil e => exact .nil e
  | cons a b c q ih1 ih2 =>
    refine RL.cons (τ' := backT _) ?_ ih1 ih2 q
    have box : ∀ {q : Md} {t : Ty} {a : Addr} {o : HO} {w : Prop} {m : Ow} {ds' : List D} {vs' : List V} {d : D} {v : V}, Box G.K H z a o w q m → (∀ q t, Box G.K H z' a o w q m → Nd G.F H z' (.N q t) d v t ds' vs' m) → Nd G.F H z' (backT (.N q t)) d v (backT t) ds' vs' m := by
      intro q t a o w m ds' vs' d v hb mk
      cases q with
      | o => exact mk .o _ hb
      | f => exact mk .r _ ⟨hb.1.imp (fun q => q.1) id, hb.2⟩
      | r => exact mk .r _ hb
    cases a with
    | non h => exact .non h
    | bl h => exact .bl h
    | int h => exact .int h
    | str h => exact .str h
    | tup h e => exact .tup h e
    | lst h => exact box h fun q t hb => .lst hb
    | dk n l h => exact box h fun q t hb => .dk n l hb
    | dt n k l h => exact box h fun q t hb => .dt n k l hb
theorem EvA.call {ta : TA} {fa : Env → Res (List D)} {fn : Fun} {ts : List Ty} {dvs : List V} {dks : List Kt} (ha : EvA G W ta Γ Γ1 τs fa) (hd : dvs.map some = dks.map fun k => atomV k.d)
    (hs : (((τs ++ dks.map fun _ => Ty.I).zip ts).all fun p => En.sub (fzT p.1) p.2) = true) (hl : τs.length + dks.length = ts.length) :
    EvE G W (tCallSD (spOf G ts τ fn) dvs (WE W) ta) Γ Γ1 (backT τ) fun ρ => (fa ρ).bind fun ds => fn (ds ++ dks.map Kt.d) := by
  intro ρ σ H z m se ok Q h
  rw [Res.post_bind] at h
  refine ha ρ σ H z m se ok _ (Res.post_mono h (fun ds h vs H1 z1 m1 mv se1 r1 st1 ex1 => ?_) fun _ h => h)
  have app : ∀ {τs : List Ty} {ds : List D} {vs : List V} {mv : Ow} {dvs : List V} {dks : List Kt}, RA G.F H1 z1 τs ds vs mv → dvs.map some = dks.map (fun k => atomV k.d) → RA G.F H1 z1 (τs ++ dks.map fun _ => Ty.I) (ds ++ dks.map Kt.d) (vs ++ dvs) mv := by
    intro τs ds vs mv dvs dks h
    induction h with
    | nil q =>
      intro hd
      induction dks generalizing dvs with
      | nil =>
        cases dvs with
        | nil => exact .nil q
        | cons _ _ => cases hd
      | cons k ks ih =>
        cases dvs with
        | nil => cases hd
        | cons v vs =>
          simp only [List.map_cons, List.cons.injEq] at hd
          exact .cons (m1 := fun _ => 0) (m2 := fun _ => 0) (Rp.atom hd.1.symm) ((ih hd.2).eqm fun b => by rw [q]) fun b => by rw [q]
    | cons a b c ih => exact fun hd => .cons a (ih hd) c
  have r2 := RA.hand (app r1 hd) hs (by simpa using hl)
  have st1' : Stp H z m H1 z1 m1 := st1.drop fun _ => Nat.le_add_right _ _
  refine ⟨ds ++ dks.map Kt.d, _, r2, fun _ q => q, Res.post_mono h (fun d h v H2 z2 m2 rp st2 => ?_) fun x hx c dx H2 r e2 => hx c dx H2 r (ex1.trans e2)⟩
  have ex2 := st2.ext0
  have d2 : ∀ a, H1 a ≠ none → m2 a = 0 := fun a e => by have := (st2.dec a e).1; omega
  have st3 : Stp H1 z1 m1 H2 (fun a => z1 a ∨ (z2 a ∧ H1 a = none)) (fun a => m1 a + m2 a) := by
    refine ⟨fun a o e _ => ex2 a o e, st2.live, fun a q => .inl q, fun a e => ⟨by rw [d2 a e]; omega, fun q => ?_⟩, fun a => ?_⟩
    · rcases q with q | ⟨_, q⟩
      · exact .inl q
      · exact absurd q e
    · have o1 := st1'.ok a
      have o2 := st2.ok a
      by_cases hn : H1 a = none
      · have h0 := st1'.ok.zero_at hn
        refine ⟨by omega, fun q => ⟨fun zq => ?_, ?_⟩, fun q => ?_⟩
        · rcases zq with zq | ⟨zq, _⟩
          · exact o1.2.2 zq hn
          · exact (o2.2.1 (by omega)).1 zq
        · exact (o2.2.1 (by omega)).2
        · rcases q with q | ⟨q, _⟩
          · exact absurd hn (o1.2.2 q)
          · exact o2.2.2 q
      · have h0 := d2 a hn
        refine ⟨by omega, fun q => ⟨fun zq => ?_, ?_⟩, fun q => ?_⟩
        · rcases zq with zq | ⟨_, zq⟩
          · exact (o1.2.1 (by omega)).1 zq
          · exact hn zq
        · have mu := (o1.2.1 (by omega)).2
          cases e : H1 a with
          | none => exact absurd e hn
          | some o => rw [ex2 a o e]; rw [e] at mu; exact mu
        · exact st2.live a hn
  exact h v H2 _ m1 m2 (se1.ext ex2 fun _ q => .inl q) (rp.back _) (st1'.trans st3) (ex1.trans ex2)
end En

set_option Elab.async false
set_option linter.all false
set_option autoImplicit false
set_option maxRecDepth 100000
namespace En
open PySem PySem.Spec PyProof.Rows L2
variable {G : Gx} {W : WX} {H H' H'' : Hp} {z z' z'' : Addr → Prop} {τ τ' : Ty} {d : D} {v : V} {ds : List D} {vs : List V} {m m' m1 m2 m0 : Ow} {Γ Γ' Γ'' Γ1 Γ2 : TyEnv} {ρ ρ' : Env} {σ σ' : L2.St} {τs : List Ty}

theorem relStp (ok : Ok H z m) (l : ∀ b, m' b ≤ m b) : Stp H z m H (fun a => z a ∨ (1 ≤ m a ∧ m' a = 0)) m' := by
  refine ⟨fun _ _ q _ => q, fun _ q => q, fun _ q => .inl q, fun a q => ⟨l a, fun r => r⟩, fun a => ?_⟩
  have o := ok a
  have := l a
  refine ⟨by omega, fun e => ⟨fun q => ?_, (o.2.1 (by omega)).2⟩, fun q => ?_⟩
  · rcases q with q | q
    · exact (o.2.1 (by omega)).1 q
    · omega
  · rcases q with q | q
    · exact o.2.2 q
    · have mu := (o.2.1 (by omega)).2
      intro e
      rw [e] at mu
      exact mu
/-! ## more about the slots -/
theorem SE.agree : ∀ {Γ : TyEnv} {ρ ρ' : Env} {σ σ' : L2.St} {m : Ow}, SE G.F H z Γ ρ σ m → ρ'.length = ρ.length → σ'.length = σ.length →
    (∀ (i : Nat) (t : Ty), Γ[i]? = some (some t) → ρ'[i]? = ρ[i]? ∧ σ'[i]? = σ[i]?) → SE G.F H z Γ ρ' σ' m
  | _, _, ρ', _, σ', _, .nil e, h1, h2, _ => by
    have e1 : ρ' = [] := List.length_eq_zero_iff.mp h1
    have e2 : σ' = [] := List.length_eq_zero_iff.mp h2
    subst e1 e2
    exact .nil e
  | _, _, [], _, _, _, .no _, h1, _, _ => by simp at h1
  | _, _, _ :: _, _, [], _, .no _, _, h2, _ => by simp at h2
  | _, _, x :: ρ', _, y :: σ', _, .no a, h1, h2, h3 => .no (SE.agree a (by simpa using h1) (by simpa using h2) fun i t e => by simpa using h3 (i + 1) t (by simpa using e))
  | _, _, [], _, _, _, .yes _ _ _, h1, _, _ => by simp at h1
  | _, _, _ :: _, _, [], _, .yes _ _ _, _, h2, _ => by simp at h2
  | _, _, x :: ρ', _, y :: σ', _, .yes a b c, h1, h2, h3 => by
    have h0 := h3 0 _ rfl
    simp only [List.getElem?_cons_zero, Option.some.injEq] at h0
    obtain ⟨rfl, rfl⟩ := h0
    exact .yes a (SE.agree b (by simpa using h1) (by simpa using h2) fun i t e => by simpa using h3 (i + 1) t (by simpa using e)) c
def clearT (cl : List Nat) (Γ : TyEnv) : TyEnv := cl.foldl (fun Γ i => Γ.set i none) Γ
theorem clearT_length : ∀ (cl : List Nat) (Γ : TyEnv), (clearT cl Γ).length = Γ.length
  | [], _ => rfl
  | i :: cl, Γ => by show (clearT cl (Γ.set i none)).length = _; rw [clearT_length cl, List.length_set]
theorem clear_length : ∀ (cl : List Nat) (ρ : Env), (clear cl ρ).length = ρ.length
  | [], _ => rfl
  | i :: cl, ρ => by show (clear cl (ρ.set i .none)).length = _; rw [clear_length cl, List.length_set]
theorem clearT_get : ∀ (cl : List Nat) (Γ : TyEnv) (i : Nat) (t : Ty), (clearT cl Γ)[i]? = some (some t) → Γ[i]? = some (some t) ∧ i ∉ cl
  | [], _, _, _, h => ⟨h, by simp⟩
  | j :: cl, Γ, i, t, h => by
    obtain ⟨h1, h2⟩ := clearT_get cl (Γ.set j none) i t h
    by_cases e : j = i
    · subst e
      by_cases hl : j < Γ.length
      · rw [List.getElem?_set_self hl] at h1; cases h1
      · rw [List.getElem?_eq_none (by simpa using hl)] at h1; cases h1
    · rw [List.getElem?_set_ne e] at h1
      exact ⟨h1, by simp only [List.mem_cons, not_or]; exact ⟨fun q => e q.symm, h2⟩⟩
theorem clear_get : ∀ (cl : List Nat) (ρ : Env) (i : Nat), i ∉ cl → (clear cl ρ)[i]? = ρ[i]?
  | [], _, _, _ => rfl
  | j :: cl, ρ, i, h => by
    simp only [List.mem_cons, not_or] at h
    show (clear cl (ρ.set j .none))[i]? = _
    rw [clear_get cl _ i h.2, List.getElem?_set_ne fun q => h.1 q.symm]
theorem SE.dropT : ∀ (cl : List Nat) {Γ : TyEnv} {m : Ow}, SE G.F H z Γ ρ σ m → ∃ m', SE G.F H z (clearT cl Γ) ρ σ m' ∧ ∀ b, m' b ≤ m b
  | [], _, m, h => ⟨m, h, fun _ => Nat.le_refl _⟩
  | i :: cl, _, _, h => by
    obtain ⟨m2, h2, l2⟩ := h.drop i
    obtain ⟨m3, h3, l3⟩ := SE.dropT cl h2
    exact ⟨m3, h3, fun b => Nat.le_trans (l3 b) (l2 b)⟩
theorem SE.clear (cl : List Nat) (h : SE G.F H z Γ ρ σ m) : ∃ m', SE G.F H z (clearT cl Γ) (clear cl ρ) σ m' ∧ ∀ b, m' b ≤ m b := by
  obtain ⟨m', h1, l⟩ := h.dropT cl
  exact ⟨m', h1.agree (clear_length _ _) rfl fun i t e => ⟨clear_get cl ρ i (clearT_get cl Γ i t e).2, rfl⟩, l⟩
/-- each slot's type as another's -/
def leS1 : Option Ty → Option Ty → Bool
  | none, _ => true
  | some a, some b => En.sub b a
  | some _, none => false
def leS : TyEnv → TyEnv → Bool
  | [], [] => true
  | a :: as, b :: bs => leS1 a b && leS as bs
  | _, _ => false
theorem SE.coS : ∀ {Γ Γ' : TyEnv} {ρ : Env} {σ : L2.St} {m : Ow}, SE G.F H z Γ ρ σ m → leS Γ' Γ = true → (∀ a, m a ≤ 1) →
    ∃ m' : Ow, (∀ b, m' b ≤ m b) ∧ ∀ z'' : Addr → Prop, (∀ a, z a → z'' a) → (∀ a, 1 ≤ m a → m' a = 0 → z'' a) → SE G.F H z'' Γ' ρ σ m'
  | _, [], _, _, m, .nil e, _, _ => ⟨m, fun _ => Nat.le_refl _, fun _ _ _ => .nil e⟩
  | _, _ :: _, _, _, _, .nil _, e, _ => by cases e
  | _, [], _, _, _, .no _, e, _ => by cases e
  | _, x :: Γ', _, _, m, .no a, e, h1 => by
    simp only [leS, Bool.and_eq_true] at e
    obtain ⟨m', l, k⟩ := SE.coS a e.2 h1
    cases x with
    | none => exact ⟨m', l, fun z'' hz hm => .no (k z'' hz hm)⟩
    | some t => cases e.1
  | _, [], _, _, _, .yes _ _ _, e, _ => by cases e
  | _, x :: Γ', _, _, m, .yes (m1 := m1) (m2 := m2) a b c, e, h1 => by
    simp only [leS, Bool.and_eq_true] at e
    obtain ⟨mb, lb, kb⟩ := SE.coS b e.2 fun a => by have := c a; have := h1 a; omega
    cases x with
    | none => exact ⟨mb, fun x => by have := lb x; have := c x; omega, fun z'' hz hm => .no (kb z'' hz fun a p q => hm a (by have := c a; omega) q)⟩
    | some t =>
      obtain ⟨ma, la, ka⟩ := sub_co _ _ e.1 a fun a => by have := c a; have := h1 a; omega
      refine ⟨fun x => ma x + mb x, fun x => by have := c x; have := la x; have := lb x; simp only; omega, fun z'' hz hm => .yes (ka z'' hz fun x p q => ?_) (kb z'' hz fun x p q => ?_) fun _ => rfl⟩
      · exact hm x (by have := c x; omega) (by have := c x; have := h1 x; have := la x; have := lb x; simp only; omega)
      · exact hm x (by have := c x; omega) (by have := c x; have := h1 x; have := la x; have := lb x; simp only; omega)
theorem SE.sub (h : SE G.F H z Γ ρ σ m) (e : leS Γ' Γ = true) (ok : Ok H z m) : ∃ (z' : Addr → Prop) (m' : Ow), SE G.F H z' Γ' ρ σ m' ∧ Stp H z m H z' m' := by
  obtain ⟨m', l, k⟩ := h.coS e fun a => (ok a).1
  exact ⟨_, m', k _ (fun a q => .inl q) (fun a q r => .inr ⟨q, r⟩), relStp ok l⟩
end En

set_option Elab.async false
set_option linter.all false
set_option autoImplicit false
set_option maxRecDepth 100000
namespace En
open PySem PySem.Spec PyProof.Rows L2 RZ
variable {G : Gx} {W : WX} {H H' H'' : Hp} {z z' z'' : Addr → Prop} {τ τ' : Ty} {d : D} {v : V} {ds : List D} {vs : List V} {m m' m1 m2 m0 : Ow} {Γ Γ' Γ'' Γ1 Γ2 : TyEnv} {ρ ρ' : Env} {σ σ' : L2.St} {τs : List Ty}

/-! ## targets -/
def Tg.slots : Tg → List Nat
  | .s i => [i]
  | .t is => is
def Tg.ty (tg : Tg) (τ : Ty) (Γ : TyEnv) : TyEnv := tg.slots.foldl (fun Γ i => Γ.set i (some τ)) Γ
def EvG (G : Gx) (g : TG) (tg : Tg) (Γ : TyEnv) (τ : Ty) : Prop :=
  ∀ (d : D) (v : V) (ρ : Env) (σ : L2.St) (H : Hp) (z : Addr → Prop) (m mv : Ow), SE G.F H z Γ ρ σ m → Rp G.F H z τ d v mv → ∀ ρ', setTg tg d ρ = some ρ' → ∀ Q : L2.St → Hp → Prop,
    (∀ (σ' : L2.St) (m' : Ow), SE G.F H z (tg.ty τ Γ) ρ' σ' m' → (∀ b, m' b ≤ m b + mv b) → σ'.length = σ.length → ρ'.length = ρ.length → (∀ j : Nat, j ∉ tg.slots → σ'[j]? = σ[j]? ∧ ρ'[j]? = ρ[j]?) → Q σ' H) → g v σ H Q
theorem EvG.name {i : Nat} (hi : i < Γ.length) : EvG G (gName i) (.s i) Γ τ := by
  intro d v ρ σ H z m mv se rp ρ' e Q h
  cases e
  obtain ⟨m2, h1, l⟩ := se.put i hi rp
  refine h _ _ h1 (fun b => by have := l b; omega) (by simp) (by simp) fun j hj => ?_
  have : i ≠ j := fun q => hj (by simp [Tg.slots, q])
  simp [List.getElem?_set_ne this]
def gNames : List Nat → TGs
  | [] => gNil
  | i :: is => gCons (gName i) (gNames is)
theorem evGs : ∀ (is : List Nat) {Γ : TyEnv} {ds : List D} {vs : List V} {ρ : Env} {σ : L2.St} {m mv : Ow}, (∀ i ∈ is, i < Γ.length) → SE G.F H z Γ ρ σ m → RL G.F H z τ ds vs mv → ds.length = is.length → ∀ Q : L2.St → Hp → Prop,
    (∀ (σ' : L2.St) (m' : Ow), SE G.F H z (is.foldl (fun Γ i => Γ.set i (some τ)) Γ) ((is.zip ds).foldl (fun ρ p => ρ.set p.1 p.2) ρ) σ' m' → (∀ b, m' b ≤ m b + mv b) → σ'.length = σ.length → ((is.zip ds).foldl (fun ρ p => ρ.set p.1 p.2) ρ).length = ρ.length →
      (∀ j : Nat, j ∉ is → σ'[j]? = σ[j]? ∧ ((is.zip ds).foldl (fun ρ p => ρ.set p.1 p.2) ρ)[j]? = ρ[j]?) → Q σ' H) → gNames is vs σ H Q
  | [], Γ, ds, vs, ρ, σ, m, mv, hi, se, rl, e, Q, h => by
    cases ds with
    | cons _ _ => cases e
    | nil =>
      cases vs with
      | cons _ _ => have := rl.length; cases this
      | nil => exact ⟨rfl, h σ m se (fun b => Nat.le_add_right _ _) rfl rfl fun _ _ => ⟨rfl, rfl⟩⟩
  | i :: is, Γ, ds, vs, ρ, σ, m, mv, hi, se, rl, e, Q, h => by
    cases ds with
    | nil => cases e
    | cons d ds =>
      cases vs with
      | nil => have := rl.length; cases this
      | cons v vs =>
        obtain ⟨mv1, mv2, r1, r2, q⟩ := rl.uncons
        obtain ⟨m2, h1, l⟩ := se.put i (hi i (by simp)) r1
        refine ⟨v, vs, rfl, evGs is (fun j hj => by rw [List.length_set]; exact hi j (by simp [hj])) h1 r2 (by simpa using e) Q fun σ' m' h2 l2 e1 e2 h3 => ?_⟩
        refine h σ' m' h2 (fun b => by have := l2 b; have := l b; have := q b; omega) (by simpa using e1) (by simpa using e2) fun j hj => ?_
        simp only [List.mem_cons, not_or] at hj
        have hne : i ≠ j := fun q => hj.1 q.symm
        obtain ⟨a, b⟩ := h3 j hj.2
        rw [List.getElem?_set_ne hne] at a b
        exact ⟨a, b⟩
theorem EvG.tup {is : List Nat} (hi : ∀ i ∈ is, i < Γ.length) : EvG G (gTup G.K is.length (gNames is)) (.t is) Γ τ := by
  intro d v ρ σ H z m mv se rp ρ' e Q h
  cases d with
  | tuple ds =>
    simp only [setTg] at e
    split at e
    · rename_i hl
      cases e
      obtain ⟨a, vs, rfl, sq, rl⟩ := Rp.tup_inv rp
      exact ⟨a, vs, rfl, sq, by rw [← rl.length, hl], evGs is hi se rl hl Q h⟩
    · cases e
  | _ => cases e

/-! ## what is walked -/
/-- reached: what was, is; or what was frozen or can't change, is -/
def Rch (fz : Bool) (H : Hp) (z : Addr → Prop) (H' : Hp) (z' : Addr → Prop) : Prop :=
  (∀ a, z a → z' a) ∧ ∀ a o, H a = some o → (fz = false ∨ z a ∨ ¬ Mut (some o)) → H' a = some o
theorem Rch.refl {fz : Bool} : Rch fz H z H z := ⟨fun _ q => q, fun _ _ e _ => e⟩
theorem Rch.step (h : Rch true H z H' z') (s : Stp H' z' m H'' z'' m') (ok : Ok H' z' m) : Rch true H z H'' z'' := by
  refine ⟨fun a q => s.zz a (h.1 a q), fun a o e q => s.keep a o (h.2 a o e q) ?_⟩
  have h1 := h.2 a o e q
  have o1 := ok a
  rcases Nat.lt_or_ge (m a) 1 with h2 | h2
  · omega
  · have h3 := o1.2.1 (by omega)
    rcases q with q | q | q
    · cases q
    · exact absurd (h.1 a q) h3.1
    · rw [h1] at h3; exact absurd h3.2 q
theorem Rch.ext {fz : Bool} (h : Rch fz H z H' z') (e : Ext H' H'') (zz : ∀ a, z' a → z'' a) : Rch fz H z H'' z'' := ⟨fun a q => zz a (h.1 a q), fun a o q r => e a o (h.2 a o q r)⟩
theorem Rch.sqT {fz : Bool} {K : Frag} {a : Addr} (h : Rch fz H z H' z') (q : SqT K H a vs) : SqT K H' a vs := En.SqT.same q fun u nm e => h.2 a u e (.inr (.inr nm))
/-- the types that stay: under steps (f, I), or under growth alone -/
def okT (fz : Bool) (τ : Ty) : Bool := !fz || τ.st
theorem RL.rch {fz : Bool} (h : Rch fz H z H' z') (r : RL G.F H z τ ds vs fun _ => 0) (e : okT fz τ = true) : RL G.F H' z' τ ds vs fun _ => 0 := by
  cases fz with
  | false => exact r.ext (fun a o q => h.2 a o q (.inl rfl)) h.1
  | true => exact r.keep (by simpa [okT] using e) (fun b u q w => h.2 b u q (w.elim (fun w => .inr (.inr w)) fun w => w.elim (fun w => .inr (.inl w)) fun w => absurd w (by simp))) h.1
theorem Box.rch {fz : Bool} {q : Md} {t : Ty} {a : Addr} {o : HO} {w : Prop} (h : Rch fz H z H' z') (b : Box G.K H z a o w q fun _ => 0) (e : okT fz (.N q t) = true) : Box G.K H' z' a o w q fun _ => 0 := by
  refine b.keep (fun x u q1 r => h.2 x u q1 ?_) h.1
  rcases r with r | r | r | r
  · subst r
    cases fz with
    | false => exact .inl rfl
    | true => simp [okT, Ty.st] at e
  · exact .inr (.inr r)
  · exact .inr (.inl r)
  · simp at r
def Wk (G : Gx) (fz : Bool) (J : L2.It) (τ : Ty) (ds : List D) (H0 : Hp) (z0 : Addr → Prop) : Prop :=
  ∀ (i : Nat) (H : Hp) (z : Addr → Prop), Rch fz H0 z0 H z →
    (∀ d, ds[i]? = some d → J.go i H ∧ ∀ x H2, J.yld i H x H2 → (H2 = H ∨ ∃ p o, H p = none ∧ H2 = upd H p o) ∧ Rp G.F H2 z τ d x fun _ => 0) ∧ (ds.length = i → J.stop i H)
def EvI (G : Gx) (W : WX) (fz : Bool) (wi : TI) (Γ Γ' : TyEnv) (τ : Ty) (f : Env → Res (List D)) : Prop :=
  ∀ (ρ : Env) (σ : L2.St) (H : Hp) (z : Addr → Prop) (m : Ow), SE G.F H z Γ ρ σ m → Ok H z m → ∀ R : L2.It → Hp → Prop,
    (f ρ).post (fun ds => ∀ (J : L2.It) (H' : Hp) (z' : Addr → Prop) (m1 : Ow), SE G.F H' z' Γ' ρ σ m1 → Stp H z m H' z' m1 → Ext H H' → Wk G fz J τ ds H' z' → ds.length ≤ sizeLine → R J H') (XOk G W σ H) → wi σ H R
theorem RL.get {i : Nat} (h : RL G.F H z τ ds vs m) (e : ds[i]? = some d) : ∃ v m', vs[i]? = some v ∧ Rp G.F H z τ d v m' ∧ ∀ b, m' b ≤ m b := by
  induction i generalizing ds vs m with
  | zero =>
    cases ds with
    | nil => cases e
    | cons d' ds =>
      cases vs with
      | nil => have := h.length; cases this
      | cons v vs =>
        obtain ⟨m1, m2, r1, r2, q⟩ := h.uncons
        cases e
        exact ⟨v, m1, rfl, r1, fun b => by have := q b; omega⟩
  | succ i ih =>
    cases ds with
    | nil => cases e
    | cons d' ds =>
      cases vs with
      | nil => have := h.length; cases this
      | cons v vs =>
        obtain ⟨m1, m2, r1, r2, q⟩ := h.uncons
        obtain ⟨v', m', h1, h2, h3⟩ := ih r2 e
        exact ⟨v', m', h1, h2, fun b => by have := q b; have := h3 b; omega⟩
theorem RL.get0 {i : Nat} (h : RL G.F H z τ ds vs fun _ => 0) (e : ds[i]? = some d) : ∃ v, vs[i]? = some v ∧ Rp G.F H z τ d v fun _ => 0 := by
  obtain ⟨v, m', h1, h2, h3⟩ := h.get e
  exact ⟨v, h1, h2.eqm fun b => (Nat.le_zero.mp (h3 b)).symm⟩
theorem wk_list {fz : Bool} {q : Md} {t : Ty} {a : Addr} (hb : Box G.K H z a (.lst vs) (KL G.K a vs) q fun _ => 0) (r : RL G.F H z t ds vs fun _ => 0) (e : okT fz (.N q t) = true) : Wk G fz (Itl G.K a) t ds H z := by
  intro i H1 z1 rc
  have e2 : okT fz t = true := by
    cases fz with
    | false => rfl
    | true => exact (Ty.st_inv (by simpa [okT] using e)).2
  have sq := Box.sqL (Box.rch rc hb e)
  have r1 := RL.rch rc r e2
  refine ⟨fun d hd => ?_, fun hl => ⟨vs, sq, by rw [← r.length]; exact Nat.le_of_eq hl⟩⟩
  obtain ⟨v, h1, h2⟩ := r1.get0 hd
  refine ⟨⟨vs, v, sq, h1⟩, fun x H2 y => ?_⟩
  obtain ⟨rfl, y⟩ := y
  have := y vs sq
  rw [h1] at this
  cases this
  exact ⟨.inl rfl, h2⟩
theorem wk_tup {fz : Bool} {a : Addr} (hb : SqT G.K H a vs) (r : RL G.F H z τ ds vs fun _ => 0) (e : okT fz τ = true) : Wk G fz (Itt G.K a) τ ds H z := by
  intro i H1 z1 rc
  have sq := rc.sqT hb
  have r1 := RL.rch rc r e
  refine ⟨fun d hd => ?_, fun hl => ⟨vs, sq, by rw [← r.length]; exact Nat.le_of_eq hl⟩⟩
  obtain ⟨v, h1, h2⟩ := r1.get0 hd
  refine ⟨⟨vs, v, sq, h1⟩, fun x H2 y => ?_⟩
  obtain ⟨rfl, y⟩ := y
  have := y vs sq
  rw [h1] at this
  cases this
  exact ⟨.inl rfl, h2⟩
theorem wk_enum {fz : Bool} {q : Md} {t : Ty} {a : Addr} (hb : Box G.K H z a (.lst vs) (KL G.K a vs) q fun _ => 0) (r : RL G.F H z t ds vs fun _ => 0) (e : okT fz (.N q t) = true) : Wk G fz (Ite G.K a) t (enumD ds) H z := by
  intro i H1 z1 rc
  have e2 : okT fz t = true := by
    cases fz with
    | false => rfl
    | true => exact (Ty.st_inv (by simpa [okT] using e)).2
  have sq := Box.sqL (Box.rch rc hb e)
  have r1 := RL.rch rc r e2
  refine ⟨fun d hd => ?_, fun hl => ⟨vs, sq, by rw [← r.length]; have := Nat.le_of_eq hl; simpa [enumD] using this⟩⟩
  obtain ⟨d', hd', rfl⟩ : ∃ d', ds[i]? = some d' ∧ d = .tuple [.int i, d'] := by
    simp only [enumD, List.getElem?_map, List.getElem?_zipIdx, Option.map_eq_some_iff] at hd
    obtain ⟨p, ⟨d', h1, rfl⟩, rfl⟩ := hd
    exact ⟨d', h1, by simp⟩
  obtain ⟨v, h1, h2⟩ := r1.get0 hd'
  refine ⟨⟨vs, v, sq, h1⟩, fun x H2 y => ?_⟩
  obtain ⟨T, x, rfl, hT, rfl, y⟩ := y
  have := y vs sq
  rw [h1] at this
  cases this
  exact ⟨.inr ⟨T, _, hT, rfl⟩, Rp.mkT (.inl (.inl upd_same)) (RL.cons' (m1 := fun _ => 0) (m2 := fun _ => 0) (Rp.atom rfl) (h2.new hT) fun _ => rfl)⟩
theorem zip_get {xs ys : List D} {i : Nat} {d : D} (h : (zipD [xs, ys])[i]? = some d) : ∃ x y, xs[i]? = some x ∧ ys[i]? = some y ∧ d = .tuple [x, y] := by
  simp only [zipD, List.getElem?_map, Option.map_eq_some_iff] at h
  obtain ⟨p, hp, rfl⟩ := h
  rw [List.getElem?_zip_eq_some] at hp
  exact ⟨p.1, p.2, hp.1, hp.2, rfl⟩
theorem wk_zip {fz : Bool} {q q' : Md} {t t' u : Ty} {a b : Addr} {es : List D} {ws : List V} (hb : Box G.K H z a (.lst vs) (KL G.K a vs) q fun _ => 0) (r : RL G.F H z t ds vs fun _ => 0) (e : okT fz (.N q t) = true)
    (hb' : Box G.K H z b (.lst ws) (KL G.K b ws) q' fun _ => 0) (r' : RL G.F H z t' es ws fun _ => 0) (e' : okT fz (.N q' t') = true) (s1 : sub t u = true) (s2 : sub t' u = true) : Wk G fz (Itz G.K a b) u (zipD [ds, es]) H z := by
  intro i H1 z1 rc
  have st : ∀ {q : Md} {t : Ty}, okT fz (.N q t) = true → okT fz t = true := fun {q t} e => by
    cases fz with
    | false => rfl
    | true => exact (Ty.st_inv (by simpa [okT] using e)).2
  have sq := Box.sqL (Box.rch rc hb e)
  have sq' := Box.sqL (Box.rch rc hb' e')
  have r1 := RL.rch rc r (st e)
  have r1' := RL.rch rc r' (st e')
  refine ⟨fun d hd => ?_, fun hl => ⟨vs, ws, sq, sq', ?_⟩⟩
  · obtain ⟨x, y, hx, hy, rfl⟩ := zip_get hd
    obtain ⟨v, h1, h2⟩ := r1.get0 hx
    obtain ⟨v', h1', h2'⟩ := r1'.get0 hy
    refine ⟨⟨vs, ws, v, v', sq, sq', h1, h1'⟩, fun x H2 y => ?_⟩
    obtain ⟨T, x, y, rfl, hT, rfl, f1, f2⟩ := y
    have g1 := f1 vs sq
    have g2 := f2 ws sq'
    rw [h1] at g1
    rw [h1'] at g2
    cases g1
    cases g2
    have co : ∀ {t : Ty} {d : D} {v : V}, sub t u = true → Rp G.F H1 z1 t d v (fun _ => 0) → Rp G.F H1 z1 u d v fun _ => 0 := fun {t d v} s h => by
      obtain ⟨m', l, k⟩ := sub_co _ _ s h fun _ => Nat.zero_le _
      exact (k z1 (fun _ q => q) fun a q => absurd (show 1 ≤ 0 from q) (by decide)).eqm fun b => (Nat.le_zero.mp (l b)).symm
    exact ⟨.inr ⟨T, _, hT, rfl⟩, Rp.mkT (.inl (.inl upd_same)) (RL.cons' (m1 := fun _ => 0) (m2 := fun _ => 0) ((co s1 h2).new hT) ((co s2 h2').new hT) fun _ => rfl)⟩
  · have l1 := r.length
    have l2 := r'.length
    simp only [zipD, List.length_map, List.length_zip] at hl
    omega
theorem wk_zipT {fz : Bool} {t t' u : Ty} {a b : Addr} {es : List D} {ws : List V} (hb : SqT G.K H a vs) (r : RL G.F H z t ds vs fun _ => 0) (e : okT fz t = true)
    (hb' : SqT G.K H b ws) (r' : RL G.F H z t' es ws fun _ => 0) (e' : okT fz t' = true) (s1 : sub t u = true) (s2 : sub t' u = true) : Wk G fz (ItzT G.K a b) u (zipD [ds, es]) H z := by
  intro i H1 z1 rc
  have sq := rc.sqT hb
  have sq' := rc.sqT hb'
  have r1 := RL.rch rc r e
  have r1' := RL.rch rc r' e'
  refine ⟨fun d hd => ?_, fun hl => ⟨vs, ws, sq, sq', ?_⟩⟩
  · obtain ⟨x, y, hx, hy, rfl⟩ := zip_get hd
    obtain ⟨v, h1, h2⟩ := r1.get0 hx
    obtain ⟨v', h1', h2'⟩ := r1'.get0 hy
    refine ⟨⟨vs, ws, v, v', sq, sq', h1, h1'⟩, fun x H2 y => ?_⟩
    obtain ⟨T, x, y, rfl, hT, rfl, f1, f2⟩ := y
    have g1 := f1 vs sq
    have g2 := f2 ws sq'
    rw [h1] at g1
    rw [h1'] at g2
    cases g1
    cases g2
    have co : ∀ {t : Ty} {d : D} {v : V}, sub t u = true → Rp G.F H1 z1 t d v (fun _ => 0) → Rp G.F H1 z1 u d v fun _ => 0 := fun {t d v} s h => by
      obtain ⟨m', l, k⟩ := sub_co _ _ s h fun _ => Nat.zero_le _
      exact (k z1 (fun _ q => q) fun a q => absurd (show 1 ≤ 0 from q) (by decide)).eqm fun b => (Nat.le_zero.mp (l b)).symm
    exact ⟨.inr ⟨T, _, hT, rfl⟩, Rp.mkT (.inl (.inl upd_same)) (RL.cons' (m1 := fun _ => 0) (m2 := fun _ => 0) ((co s1 h2).new hT) ((co s2 h2').new hT) fun _ => rfl)⟩
  · have l1 := r.length
    have l2 := r'.length
    simp only [zipD, List.length_map, List.length_zip] at hl
    omega
/-- integers from lo on -/
theorem wk_rng {fz : Bool} {lo c : Int} {n : Nat} : Wk G fz (Itc lo c n) .I ((List.range n).map fun i => .int (lo + (i : Nat) * c)) H z := by
  intro i H1 z1 rc
  refine ⟨fun d hd => ?_, fun hl => show n ≤ i by have := Nat.le_of_eq hl; simpa using this⟩
  simp only [List.getElem?_map, Option.map_eq_some_iff] at hd
  obtain ⟨j, hj, rfl⟩ := hd
  obtain ⟨hi, rfl⟩ : i < n ∧ i = j := by
    have h1 := (List.getElem?_eq_some_iff.mp hj).1
    rw [List.length_range] at h1
    exact ⟨h1, by rw [List.getElem?_range h1] at hj; exact Option.some.inj hj⟩
  refine ⟨hi, fun x H2 y => ?_⟩
  obtain ⟨rfl, rfl⟩ := y
  exact ⟨.inl rfl, Rp.atom rfl⟩
end En

set_option Elab.async false
set_option linter.all false
set_option autoImplicit false
set_option maxRecDepth 100000
namespace En
open PySem PySem.Spec PyProof.Rows L2 RZ
variable {G : Gx} {W : WX} {H H' H'' : Hp} {z z' z'' : Addr → Prop} {τ τ' : Ty} {d : D} {v : V} {ds : List D} {vs : List V} {m m' m1 m2 m0 : Ow} {Γ Γ' Γ'' Γ1 Γ2 Γb : TyEnv} {ρ ρ' : Env} {σ σ' : L2.St} {τs : List Ty} {τr : Ty}

/-! ## a change -/
/-- the owner of p writes there; r is what is owned then -/
theorem Stp.write {p : Addr} {o : HO} (ok : Ok H z m) (hp : m p = 1) (mu : Mut (some o)) : Stp H z m (upd H p o) z m := by
  have o1 := ok p
  have nz := (o1.2.1 hp).1
  refine ⟨fun a u e h => ?_, fun a h => ?_, fun _ q => q, fun a _ => ⟨Nat.le_refl _, .inl⟩, fun a => ?_⟩
  · have : a ≠ p := fun q => by rw [q, hp] at h; cases h
    rw [upd_ne this]; exact e
  · by_cases q : a = p
    · rw [q, upd_same]; simp
    · rw [upd_ne q]; exact h
  · by_cases q : a = p
    · subst q
      rw [upd_same]
      exact ⟨by omega, fun _ => ⟨nz, mu⟩, fun w => absurd w nz⟩
    · rw [upd_ne q]; exact ok a
/-- what the write does not touch -/
theorem RL.write {p : Addr} {o : HO} (h : RL G.F H z τ ds vs m) (hs : τ.st = true) (ok : Ok H z fun a => one p a + m a) : RL G.F (upd H p o) z τ ds vs m := by
  refine h.keep hs (fun b u e q => ?_) fun _ q => q
  have o1 := ok p
  have h1 : one p p = 1 := one_self p
  simp only [h1] at o1
  have hp : b ≠ p := by
    intro w
    subst w
    have h2 := o1.2.1 (by omega)
    rcases q with q | q | q
    · rw [e] at h2; exact q h2.2
    · exact h2.1 q
    · omega
  rw [upd_ne hp]; exact e
theorem SE.write {p : Addr} {o : HO} (h : SE G.F H z Γ ρ σ m) (hs : TyEnv.st Γ = true) (ok : Ok H z fun a => one p a + m a) (mu : Mut (some o)) : SE G.F (upd H p o) z Γ ρ σ m := by
  have ok1 : Ok H z (one p) := ok.drop fun b => by simp
  exact h.beside hs (Stp.write ok1 (one_self p) mu) ok

/-! ## comprehensions -/
theorem SE.wipe : ∀ (cl : List Nat) (σ : L2.St), (∀ i : Nat, i ∉ cl → (L2.wipe σ cl)[i]? = σ[i]?)
  | [], _, _, _ => rfl
  | j :: cl, σ, i, h => by
    simp only [List.mem_cons, not_or] at h
    show ((L2.wipe σ cl).set j none)[i]? = _
    rw [List.getElem?_set_ne fun q => h.1 q.symm]
    exact SE.wipe cl σ i h.2
theorem wipe_in : ∀ {vs : List Nat} {σ : L2.St} {j : Nat}, j ∈ vs → j < σ.length → (wipe σ vs)[j]? = some none
  | v :: vs, σ, j, hj, hl => by
    show ((wipe σ vs).set v none)[j]? = _
    by_cases q : v = j
    · subst q
      rw [List.getElem?_set_self (by rw [wipe_length]; exact hl)]
    · rw [List.getElem?_set_ne q]
      exact wipe_in ((List.mem_cons.mp hj).resolve_left fun w => q w.symm) hl
theorem wipe_agree {vs : List Nat} {σ σ' : L2.St} (hl : σ'.length = σ.length) (h : ∀ j : Nat, j ∉ vs → σ'[j]? = σ[j]?) : wipe σ' vs = wipe σ vs := by
  apply List.ext_getElem?
  intro j
  by_cases hj : j ∈ vs
  · by_cases hlt : j < σ.length
    · rw [wipe_in hj hlt, wipe_in hj (by rw [hl]; exact hlt)]
    · rw [List.getElem?_eq_none (by rw [wipe_length]; omega), List.getElem?_eq_none (by rw [wipe_length]; omega)]
  · rw [SE.wipe vs σ j hj, SE.wipe vs σ' j hj, h j hj]
theorem wipe_wipe (vs : List Nat) (σ : L2.St) : wipe (wipe σ vs) vs = wipe σ vs := wipe_agree (wipe_length _ _) fun j hj => SE.wipe vs σ j hj
theorem sizeD {n : Nat} (h : ds.length ≤ n) (hn : n ≤ sizeLine) : ds.length ≤ sizeLine := Nat.le_trans h hn
theorem lcD_len (f : D → Res (Option D)) : ∀ (ds : List D) {r : List D}, lcD f ds = .ok r → r.length ≤ ds.length
  | [], r, h => by cases h; exact Nat.le_refl _
  | d :: ds, r, h => by
    simp only [lcD] at h
    cases e : f d with
    | ok o =>
      rw [e] at h
      cases e2 : lcD f ds with
      | ok r2 =>
        rw [e2] at h
        have := lcD_len f ds e2
        cases o <;> · simp only [Res.bind_ok, Res.ok.injEq] at h; subst h; simp; omega
      | ex x => rw [e2] at h; cases h
      | bad => rw [e2] at h; cases h
    | ex x => rw [e] at h; cases h
    | bad => rw [e] at h; cases h
/-- W of a comprehension's block: nothing is raised -/
abbrev W0 : WX := fun _ _ _ _ => False
def lcF (tg : Tg) (ρ : Env) (ft : Env → Res Bool) (fe : Env → Res D) : D → Res (Option D) := fun d => (Res.of (setTg tg d ρ)).bind fun ρ' => (ft ρ').noex.bind fun x => if x then (fe ρ').noex.map some else .ok none
def EvEP (G : Gx) (W : WX) (Pre : L2.St → Hp → Prop) (t : TE) (Γ Γ' : TyEnv) (τ : Ty) (f : Env → Res D) : Prop :=
  ∀ (ρ : Env) (σ : L2.St) (H : Hp) (z : Addr → Prop) (m : Ow), Pre σ H → SE G.F H z Γ ρ σ m → Ok H z m → ∀ Q : VK,
    (f ρ).post (fun d => ∀ (v : V) (H' : Hp) (z' : Addr → Prop) (m1 mv : Ow), SE G.F H' z' Γ' ρ σ m1 → Rp G.F H' z' τ d v mv → Stp H z m H' z' (fun a => m1 a + mv a) → Ext H H' → Q v H') (XOk G W σ H) → t σ H Q
def EvIP (G : Gx) (W : WX) (Pre : L2.St → Hp → Prop) (fz : Bool) (wi : TI) (Γ Γ' : TyEnv) (τ : Ty) (f : Env → Res (List D)) : Prop :=
  ∀ (ρ : Env) (σ : L2.St) (H : Hp) (z : Addr → Prop) (m : Ow), Pre σ H → SE G.F H z Γ ρ σ m → Ok H z m → ∀ R : L2.It → Hp → Prop,
    (f ρ).post (fun ds => ∀ (J : L2.It) (H' : Hp) (z' : Addr → Prop) (m1 : Ow), SE G.F H' z' Γ' ρ σ m1 → Stp H z m H' z' m1 → Ext H H' → Wk G fz J τ ds H' z' → ds.length ≤ sizeLine → R J H') (XOk G W σ H) → wi σ H R
theorem EvE.lcP {Pre : L2.St → Hp → Prop} {wi : TI} {g : TG} {tt : TT} {te : TE} {tg : Tg} {τi : Ty} {fi : Env → Res (List D)} {ft : Env → Res Bool} {fe : Env → Res D}
    (hi : EvIP G W Pre false wi Γ Γ1 τi fi) (hg : EvG G g tg (clearT tg.slots Γ1) τi) (ht : EvT G W0 tt (tg.ty τi (clearT tg.slots Γ1)) ft) (he : EvE G W0 te (tg.ty τi (clearT tg.slots Γ1)) (tg.ty τi (clearT tg.slots Γ1)) τ fe)
    (hs : τ.st = true) (hΓ : TyEnv.st (tg.ty τi (clearT tg.slots Γ1)) = true) (hc : clearT tg.slots (tg.ty τi (clearT tg.slots Γ1)) = clearT tg.slots Γ1) :
    EvEP G W Pre (tLc wi g tt te tg.slots) Γ (clearT tg.slots Γ1) (.N .o τ) fun ρ => (fi ρ).bind fun ds => (lcD (lcF tg ρ ft fe) ds).map .list := by
  intro ρ σ H z m hp se ok Q h
  rw [Res.post_bind] at h
  refine hi ρ σ H z m hp se ok _ (Res.post_mono h (fun ds h J H1 z1 m1 se1 st1 ex1 wk hz => ?_) fun _ h => h)
  rw [Res.post_map] at h
  intro D hD
  -- what the block knows between two turns
  obtain ⟨m1', sb1, l1⟩ := se1.dropT tg.slots
  have st1' : Stp H z m H1 z1 m1' := st1.drop l1
  have sbw : SE G.F H1 z1 (clearT tg.slots Γ1) ρ (wipe σ tg.slots) m1' := sb1.agree rfl (wipe_length _ _) fun i t e => ⟨rfl, SE.wipe _ _ i (clearT_get _ _ i t e).2⟩
  have st2 := st1'.own (o := .lst []) hD trivial
  -- the invariant
  refine ⟨fun i k Hc => k = ds.length - i ∧ i ≤ ds.length ∧ ∃ (zc : Addr → Prop) (mc me : Ow) (done : List En.D) (acc : List V), SE G.F Hc zc (clearT tg.slots Γ1) ρ (wipe σ tg.slots) mc ∧ Hc D = some (.lst acc) ∧ RL G.F Hc zc τ done acc me ∧ done.length ≤ i ∧
      Stp H z m Hc zc (fun a => one D a + (mc a + me a)) ∧ Ext H1 Hc ∧ (∀ a, z1 a → zc a) ∧
      (lcD (lcF tg ρ ft fe) (ds.drop i)).post (fun r => ∀ (v : V) (H' : Hp) (z' : Addr → Prop) (m1 mv : Ow), SE G.F H' z' (clearT tg.slots Γ1) ρ σ m1 → Rp G.F H' z' (.N .o τ) (.list (done ++ r)) v mv → Stp H z m H' z' (fun a => m1 a + mv a) → Ext H H' → Q v H') (XOk G W σ H), ⟨ds.length, ?_⟩, ?_⟩
  · refine ⟨by simp, Nat.zero_le _,  z1, m1', fun _ => 0, [], [], sbw.new hD, upd_same, .nil fun _ => rfl, Nat.le_refl _, st2.eqm (fun _ => rfl) fun b => by simp, Ext.new hD, fun _ q => q, ?_⟩
    simpa using h
  · rintro i k Hc ⟨rfl, hi, zc, mc, me, done, acc, seC, hDc, rlC, hdl, stC, exC, zzC, hC⟩
    have rc : Rch false H1 z1 Hc zc := ⟨zzC, fun a o e _ => exC a o e⟩
    obtain ⟨wk1, wk2⟩ := wk i Hc zc rc
    by_cases hlt : i < ds.length
    · have hd : ds[i]? = some ds[i] := List.getElem?_eq_getElem hlt
      obtain ⟨go, yl⟩ := wk1 _ hd
      refine .inr ⟨go, fun Hn => i + 1 ≤ ds.length ∧ ∃ (zc : Addr → Prop) (mc me : Ow) (done : List En.D) (acc : List V), SE G.F Hn zc (clearT tg.slots Γ1) ρ (wipe σ tg.slots) mc ∧ Hn D = some (.lst acc) ∧ RL G.F Hn zc τ done acc me ∧ done.length ≤ i + 1 ∧
        Stp H z m Hn zc (fun a => one D a + (mc a + me a)) ∧ Ext H1 Hn ∧ (∀ a, z1 a → zc a) ∧
        (lcD (lcF tg ρ ft fe) (ds.drop (i + 1))).post (fun r => ∀ (v : V) (H' : Hp) (z' : Addr → Prop) (m1 mv : Ow), SE G.F H' z' (clearT tg.slots Γ1) ρ σ m1 → Rp G.F H' z' (.N .o τ) (.list (done ++ r)) v mv → Stp H z m H' z' (fun a => m1 a + mv a) → Ext H H' → Q v H') (XOk G W σ H),
        fun Hn ⟨hn, w⟩ => ⟨ds.length - (i + 1), by omega, rfl, hn, w⟩, fun x H2 y => ?_⟩
      obtain ⟨new, rpx⟩ := yl x H2 y
      -- behind the item
      have e2 : Ext Hc H2 := by
        rcases new with rfl | ⟨p, o, hp, rfl⟩
        · exact Ext.refl
        · exact Ext.new hp
      have stC2 : Stp H z m H2 zc (fun a => one D a + (mc a + me a)) := by
        rcases new with rfl | ⟨p, o, hp, rfl⟩
        · exact stC
        · exact stC.ext hp
      rw [List.drop_eq_getElem_cons hlt] at hC
      rw [lcD, Res.post_bind, lcF, Res.post_bind, Res.post_of] at hC
      obtain ⟨ρ', hρ, hC⟩ := hC
      rw [Res.post_bind] at hC
      refine hg _ x ρ (wipe σ tg.slots) H2 zc mc (fun _ => 0) (seC.ext e2 fun _ q => q) rpx ρ' hρ _ fun σ2 m2 se2 l2 hl1 hl2 hag => ⟨?_, ?_⟩
      · rw [← wipe_wipe tg.slots σ]
        exact wipe_agree hl1 fun j hj => (hag j hj).1
      have okA : Ok H2 zc (fun a => m2 a + (one D a + me a)) := stC2.ok.drop fun b => by have := l2 b; omega
      have stF : Stp H z m H2 zc (fun a => m2 a + (one D a + me a)) := stC2.drop fun b => by have := l2 b; omega
      -- the slots of the block given back
      have back : ∀ {Hx : Hp} {zx : Addr → Prop} {mx : Ow}, SE G.F Hx zx (tg.ty τi (clearT tg.slots Γ1)) ρ' σ2 mx → ∃ my, SE G.F Hx zx (clearT tg.slots Γ1) ρ (wipe σ tg.slots) my ∧ ∀ b, my b ≤ mx b := fun {Hx zx mx} s => by
        obtain ⟨my, h1, l⟩ := s.dropT tg.slots
        rw [hc] at h1
        refine ⟨my, h1.agree hl2.symm hl1.symm fun j t e => ?_, l⟩
        obtain ⟨a, b⟩ := hag j (clearT_get _ _ j t e).2
        exact ⟨b.symm, a.symm⟩
      refine ht ρ' σ2 H2 zc m2 se2 (okA.drop fun b => Nat.le_add_right _ _) _ (Res.post_mono (Res.post_noex _ _ _ hC) (fun b hC H3 z3 m3 se3 st3 e3 => ?_) fun _ w => w.elim)
      have fr3 := st3.frame okA
      cases b with
      | false =>
        simp only [Bool.false_eq_true, if_false] at hC ⊢
        obtain ⟨my, sy, ly⟩ := back se3
        refine ⟨hlt, z3, my, me, done, acc, sy, e3 _ _ (e2 _ _ hDc), rlC.ext (e2.trans e3) st3.zz, by omega, (stF.trans fr3).drop fun b => by have := ly b; omega, exC.trans (e2.trans e3), fun a q => st3.zz a (zzC a q), ?_⟩
        have hC2 : ((lcD (lcF tg ρ ft fe) (ds.drop (i + 1))).bind fun r => Res.ok r).post _ _ := hC
        rw [Res.post_bind] at hC2
        exact hC2
      | true =>
        simp only [if_true] at hC ⊢
        rw [Res.post_map] at hC
        refine he ρ' σ2 H3 z3 m3 se3 st3.ok _ (Res.post_mono (Res.post_noex _ _ _ hC) (fun dv hC y H4 z4 m4 mv se4 r4 st4 e4 => ?_) fun _ w => w.elim)
        have hD4 : H4 D = some (.lst acc) := e4 _ _ (e3 _ _ (e2 _ _ hDc))
        have fr4 := st4.frame fr3.ok
        have rl4 : RL G.F H4 z4 τ done acc me := rlC.ext (e2.trans (e3.trans e4)) fun a q => st4.zz a (st3.zz a q)
        obtain ⟨my, sy, ly⟩ := back se4
        have ok4 : Ok H4 z4 (fun a => one D a + (my a + (me a + mv a))) := fr4.ok.drop fun b => by have := ly b; omega
        have hal : acc.length < sizeLine := by have := rl4.length; omega
        refine ⟨acc, hD4, hal, hlt, z4, my, fun a => me a + mv a, done ++ [dv], acc ++ [y], ?_, upd_same, ?_, by simp; omega, ?_, ?_, fun a q => st4.zz a (st3.zz a (zzC a q)), ?_⟩
        · have hΓ1 : TyEnv.st (clearT tg.slots Γ1) = true := by
            rw [← hc]
            have cs : ∀ (cl : List Nat) (Γ : TyEnv), TyEnv.st Γ = true → TyEnv.st (clearT cl Γ) = true := by
              intro cl
              induction cl with
              | nil => exact fun _ h => h
              | cons i cl ih =>
                intro Γ h
                refine ih _ ?_
                unfold TyEnv.st at h ⊢
                rw [List.all_eq_true] at h ⊢
                intro o ho
                rcases List.mem_or_eq_of_mem_set ho with q | q
                · exact h o q
                · subst q; rfl
            exact cs _ _ hΓ
          exact sy.write hΓ1 (ok4.drop fun b => by omega) trivial
        · exact RL.append (rl4.write hs (ok4.drop fun b => by omega)) (RL.write r4 hs (ok4.drop fun b => by omega)) fun _ => rfl
        · have w : Stp H4 z4 (fun a => one D a + (my a + (me a + mv a))) (upd H4 D (.lst (acc ++ [y]))) z4 (fun a => one D a + (my a + (me a + mv a))) := Stp.write ok4 (by have h1 := (ok4 D).1; have h2 := one_self D; simp only at h1 ⊢; omega) trivial
          exact ((stF.trans (fr3.trans (fr4.eqm (m4 := fun a => m4 a + mv a + (one D a + me a)) (fun b => by omega) fun b => by omega))).drop (m1 := fun a => one D a + (my a + (me a + mv a))) fun b => by have := ly b; omega).trans w
        · intro a o q
          have hne : a ≠ D := ne_of_none q hD
          rw [upd_ne hne]
          exact e4 _ _ (e3 _ _ (e2 _ _ (exC _ _ q)))
        · have hC2 : ((lcD (lcF tg ρ ft fe) (ds.drop (i + 1))).bind fun r => Res.ok (dv :: r)).post _ _ := hC
          rw [Res.post_bind] at hC2
          refine Res.post_mono hC2 (fun r hC => ?_) fun _ h => h
          have hC' := hC
          simp only [Res.post_ok] at hC'
          intro v H' z' m1 mv' a1 a2
          refine hC' v H' z' m1 mv' a1 ?_
          simpa using a2
    · have e : ds.length = i := by omega
      refine .inl ⟨wk2 (by omega), ?_⟩
      rw [e.symm, List.drop_length] at hC
      have hC' := hC
      simp only [lcD, Res.post_ok, List.append_nil] at hC'
      refine hC' (.ref D) Hc zc mc (fun a => one D a + me a) (seC.agree rfl (wipe_length _ _).symm fun i t e => ⟨rfl, (SE.wipe _ _ i (clearT_get _ _ i t e).2).symm⟩) (Rp.mkL ⟨hDc, fun _ => rfl⟩ rlC fun _ => rfl) (stC.eqm (fun _ => rfl) fun b => by omega) (ex1.trans exC)
theorem EvE.lc {wi : TI} {g : TG} {tt : TT} {te : TE} {tg : Tg} {τi : Ty} {fi : Env → Res (List D)} {ft : Env → Res Bool} {fe : Env → Res D}
    (hi : EvI G W false wi Γ Γ1 τi fi) (hg : EvG G g tg (clearT tg.slots Γ1) τi) (ht : EvT G W0 tt (tg.ty τi (clearT tg.slots Γ1)) ft) (he : EvE G W0 te (tg.ty τi (clearT tg.slots Γ1)) (tg.ty τi (clearT tg.slots Γ1)) τ fe)
    (hs : τ.st = true) (hΓ : TyEnv.st (tg.ty τi (clearT tg.slots Γ1)) = true) (hc : clearT tg.slots (tg.ty τi (clearT tg.slots Γ1)) = clearT tg.slots Γ1) :
    EvE G W (tLc wi g tt te tg.slots) Γ (clearT tg.slots Γ1) (.N .o τ) fun ρ => (fi ρ).bind fun ds => (lcD (lcF tg ρ ft fe) ds).map .list :=
  fun ρ σ H z m se ok Q h => EvE.lcP (Pre := fun _ _ => True) (fun ρ σ H z m _ => hi ρ σ H z m) hg ht he hs hΓ hc ρ σ H z m trivial se ok Q h
end En

set_option Elab.async false
set_option linter.all false
set_option autoImplicit false
set_option maxRecDepth 100000
namespace En
open PySem PySem.Spec PyProof.Rows L2 RZ
variable {G : Gx} {W : WX} {H H' H'' : Hp} {z z' z'' : Addr → Prop} {τ τ' : Ty} {d : D} {v : V} {ds : List D} {vs : List V} {m m' m1 m2 m0 : Ow} {Γ Γ' Γ'' Γ1 Γ2 Γb Γl : TyEnv} {ρ ρ' : Env} {σ σ' : L2.St} {τs : List Ty} {τr : Ty} {a : Bool}

/-! ## statements -/
def Kp (H : Hp) (m : Ow) (H' : Hp) : Prop := ∀ a o, H a = some o → m a = 0 → H' a = some o
/-- what is wanted of an end; at: the slots are as they were where something is raised -/
def FlP (G : Gx) (W : WX) (at_ : Bool) (Γ' Γb : TyEnv) (τr : Ty) (Dn : Ends) (σ : L2.St) (H : Hp) (z : Addr → Prop) (m : Ow) : Fl → Prop
  | .nx ρ' => ∀ (σ' : L2.St) (H' : Hp) (z' : Addr → Prop) (m' : Ow), SE G.F H' z' Γ' ρ' σ' m' → Stp H z m H' z' m' → Dn.nx σ' H'
  | .rt d => ∀ (v : V) (H' : Hp) (z' : Addr → Prop) (mv : Ow), Rp G.F H' z' τr d v mv → Stp H z m H' z' mv → Dn.rt v H'
  | .bk ρ' => ∀ (σ' : L2.St) (H' : Hp) (z' : Addr → Prop) (m' : Ow), SE G.F H' z' Γb ρ' σ' m' → Stp H z m H' z' m' → Dn.bk σ' H'
  | .ex x => if at_ = true then XOk G W σ H x else ∀ c dx σ' H', XRep G x c dx H' → Kp H m H' → W c dx σ' H'
  | .bad => False
def EvS (G : Gx) (W : WX) (at_ : Bool) (t : TS) (Γ Γ' Γb : TyEnv) (τr : Ty) (f : Env → Fl) : Prop :=
  ∀ (ρ : Env) (σ : L2.St) (H : Hp) (z : Addr → Prop) (m : Ow), SE G.F H z Γ ρ σ m → Ok H z m → ∀ Dn : Ends, FlP G W at_ Γ' Γb τr Dn σ H z m (f ρ) → t Dn σ H
theorem Ext.kp (e : Ext H H') : Kp H m H' := fun a o h _ => e a o h
theorem Kp.step (s : Stp H z m H' z' m') (k : Kp H' m' H'') : Kp H m H'' := fun a o h e => k a o (s.keep a o h e) (by have := (s.dec a (by rw [h]; simp)).1; omega)
theorem FlP.step {Dn : Ends} {r : Fl} (h : FlP G W false Γ' Γb τr Dn σ H z m r) (s : Stp H z m H' z' m') : FlP G W false Γ' Γb τr Dn σ' H' z' m' r := by
  cases r with
  | nx ρ' => exact fun σ2 H2 z2 m2 se st => h σ2 H2 z2 m2 se (s.trans st)
  | rt d => exact fun v H2 z2 m2 rp st => h v H2 z2 m2 rp (s.trans st)
  | bk ρ' => exact fun σ2 H2 z2 m2 se st => h σ2 H2 z2 m2 se (s.trans st)
  | ex x => exact fun c dx σ2 H2 r k => h c dx σ2 H2 r (k.step s)
  | bad => exact h
theorem EvS.at_ {t : TS} {f : Env → Fl} (h : EvS G W true t Γ Γ' Γb τr f) : EvS G W false t Γ Γ' Γb τr f := by
  intro ρ σ H z m se ok Dn q
  try dsimp only at q
  refine h ρ σ H z m se ok Dn ?_
  cases e : f ρ with
  | ex x =>
    rw [e] at q
    exact fun c dx H' r ex => q c dx σ H' r ex.kp
  | _ => rw [e] at q; exact q
theorem post_fl {α : Type} {r : Res α} {f : α → Fl} {Dn : Ends} (h : FlP G W a Γ' Γb τr Dn σ H z m (r.fl f)) : r.post (fun x => FlP G W a Γ' Γb τr Dn σ H z m (f x)) (XOk G W σ H) := by
  cases r with
  | ok x => exact h
  | ex x =>
    cases a with
    | true => exact h
    | false => exact fun c dx H' r ex => h c dx σ H' r ex.kp
  | bad => exact h
theorem EvS.nil : EvS G W false tNext Γ Γ Γb τr .nx := fun ρ σ H z m se ok Dn h => h σ H z m se (Stp.refl ok)
theorem EvS.seq {t u : TS} {f g : Env → Fl} (h1 : EvS G W false t Γ Γ1 Γb τr f) (h2 : EvS G W false u Γ1 Γ2 Γb τr g) : EvS G W false (tSeq t u) Γ Γ2 Γb τr fun ρ => (f ρ).then g := by
  intro ρ σ H z m se ok Dn h
  try dsimp only at h
  refine h1 ρ σ H z m se ok _ ?_
  cases e : f ρ with
  | nx ρ1 =>
    rw [e] at h
    exact fun σ1 H1 z1 m1 se1 st1 => h2 ρ1 σ1 H1 z1 m1 se1 st1.ok Dn (h.step st1)
  | rt d => rw [e] at h; exact h
  | bk ρ1 => rw [e] at h; exact h
  | ex x => rw [e] at h; exact h
  | bad => rw [e] at h; exact h
theorem EvS.one {t : TS} {f : Env → Fl} (h : EvS G W false t Γ Γ1 Γb τr f) : EvS G W false t Γ Γ1 Γb τr fun ρ => (f ρ).then .nx := by
  intro ρ σ H z m se ok Dn q
  try dsimp only at q
  refine h ρ σ H z m se ok Dn ?_
  cases e : f ρ <;> rw [e] at q <;> exact q
theorem EvS.set {te : TE} {g : TG} {tg : Tg} {f : Env → Res D} (he : EvE G W te Γ Γ1 τ f) (hg : EvG G g tg Γ1 τ) : EvS G W true (tAsg te g) Γ (tg.ty τ Γ1) Γb τr fun ρ => (f ρ).fl fun d => (Res.of (setTg tg d ρ)).fl .nx := by
  intro ρ σ H z m se ok Dn h
  try dsimp only at h
  refine he ρ σ H z m se ok _ (Res.post_mono (post_fl h) (fun d h v H1 z1 m1 mv se1 r1 st1 ex1 => ?_) fun _ h => h)
  cases e : setTg tg d ρ with
  | none => rw [e] at h; exact h.elim
  | some ρ' =>
    rw [e] at h
    exact hg d v ρ σ H1 z1 m1 mv se1 r1 ρ' e _ fun σ' m' se' l _ _ _ => h σ' H1 z1 m' se' (st1.drop l)
theorem EvS.ret {te : TE} {f : Env → Res D} (he : EvE G W te Γ Γ1 τr f) : EvS G W false (tRet te) Γ Γ' Γb τr fun ρ => (f ρ).fl .rt := by
  intro ρ σ H z m se ok Dn h
  try dsimp only at h
  exact he ρ σ H z m se ok _ (Res.post_mono (post_fl h) (fun d h v H1 z1 m1 mv se1 r1 st1 ex1 => h v H1 z1 mv r1 (st1.drop fun _ => Nat.le_add_left _ _)) fun _ h => h)
theorem EvS.expr {te : TE} {f : Env → Res D} (he : EvE G W te Γ Γ1 τ f) : EvS G W true (tDrop te) Γ Γ1 Γb τr fun ρ => (f ρ).fl fun _ => .nx ρ := by
  intro ρ σ H z m se ok Dn h
  try dsimp only at h
  exact he ρ σ H z m se ok _ (Res.post_mono (post_fl h) (fun d h v H1 z1 m1 mv se1 r1 st1 ex1 => h σ H1 z1 m1 se1 (st1.drop fun _ => Nat.le_add_right _ _)) fun _ h => h)
theorem EvS.brk : EvS G W false tBreak Γ Γ' Γ τr .bk := fun ρ σ H z m se ok Dn h => h σ H z m se (Stp.refl ok)
/-- a slot's type is changed: no step of the program -/
theorem EvS.co {t : TS} {f : Env → Fl} (h : EvS G W false t Γ' Γ1 Γb τr f) (e : leS Γ' Γ = true) : EvS G W false t Γ Γ1 Γb τr f := by
  intro ρ σ H z m se ok Dn q
  try dsimp only at q
  obtain ⟨z', m', se', st⟩ := se.sub e ok
  exact h ρ σ H z' m' se' st.ok Dn (q.step st)
/-- behind: slots forgotten, types changed -/
theorem EvS.after {t : TS} {f : Env → Fl} (cl : List Nat) (h : EvS G W a t Γ Γ1 Γb τr f) (e : leS Γ2 (clearT cl Γ1) = true) : EvS G W a t Γ Γ2 Γb τr fun ρ => (f ρ).then fun ρ => .nx (clear cl ρ) := by
  intro ρ σ H z m se ok Dn q
  try dsimp only at q
  refine h ρ σ H z m se ok Dn ?_
  cases e1 : f ρ with
  | nx ρ1 =>
    rw [e1] at q
    intro σ1 H1 z1 m1 se1 st1
    obtain ⟨m2, se2, l⟩ := se1.clear cl
    obtain ⟨z3, m3, se3, st3⟩ := se2.sub e (st1.ok.drop l)
    exact q σ1 H1 z3 m3 se3 ((st1.drop l).trans st3)
  | rt d => rw [e1] at q; exact q
  | bk ρ1 => rw [e1] at q; exact q
  | ex x => rw [e1] at q; exact q
  | bad => rw [e1] at q; exact q
theorem EvS.ite {tt : TT} {t u : TS} {b : Env → Res Bool} {f g : Env → Fl} (hb : EvT G W tt Γ b) (h1 : EvS G W false t Γ Γ1 Γb τr f) (h2 : EvS G W false u Γ Γ1 Γb τr g) : EvS G W false (tIfS tt t u) Γ Γ1 Γb τr fun ρ => (b ρ).fl fun x => if x then f ρ else g ρ := by
  intro ρ σ H z m se ok Dn h
  try dsimp only at h
  refine hb ρ σ H z m se ok _ (Res.post_mono (post_fl h) (fun x h H1 z1 m1 se1 st1 ex1 => ?_) fun _ h => h)
  cases x with
  | true =>
    simp only [if_true] at h ⊢
    exact h1 ρ σ H1 z1 m1 se1 st1.ok Dn (h.step st1)
  | false =>
    simp only [Bool.false_eq_true, if_false] at h ⊢
    exact h2 ρ σ H1 z1 m1 se1 st1.ok Dn (h.step st1)
/-! ### loops -/
theorem FlP.nocont {Dn : Ends} {N : L2.St → Hp → Prop} {body : Fl} {rest : Env → Fl} {cl : List Nat} {Γe Γk : TyEnv}
    (h : FlP G W false Γl Γb τr Dn σ H z m (loopK body rest cl)) (ek : leS Γl (clearT cl Γk) = true)
    (hn : ∀ ρ2, body = .nx ρ2 → ∀ (σ' : L2.St) (H' : Hp) (z' : Addr → Prop) (m' : Ow), SE G.F H' z' Γe ρ2 σ' m' → Stp H z m H' z' m' → N σ' H') :
    FlP G W false Γe Γk τr { Dn with nx := N, ct := N, bk := Dn.nx } σ H z m body := by
  cases body with
  | nx ρ2 => exact hn ρ2 rfl
  | rt d => exact h
  | bk ρ2 =>
    intro σ1 H1 z1 m1 se1 st1
    obtain ⟨m2, se2, l⟩ := se1.clear cl
    obtain ⟨z3, m3, se3, st3⟩ := se2.sub ek (st1.ok.drop l)
    exact h σ1 H1 z3 m3 se3 ((st1.drop l).trans st3)
  | ex x => exact h
  | bad => exact h
def EvSP (G : Gx) (W : WX) (Pre : L2.St → Hp → Prop) (t : TS) (Γ Γ' Γb : TyEnv) (τr : Ty) (f : Env → Fl) : Prop :=
  ∀ (ρ : Env) (σ : L2.St) (H : Hp) (z : Addr → Prop) (m : Ow), Pre σ H → SE G.F H z Γ ρ σ m → Ok H z m → ∀ Dn : Ends, FlP G W false Γ' Γb τr Dn σ H z m (f ρ) → t Dn σ H
theorem EvS.forP {Pre : L2.St → Hp → Prop} {wi : TI} {g : TG} {tb : TS} {tg : Tg} {τi : Ty} {fi : Env → Res (List D)} {fb : Env → Fl} {cl : List Nat} {Γe Γk : TyEnv}
    (hi : EvIP G W Pre true wi Γ Γ1 τi fi) (hg : EvG G g tg Γl τi) (hb : EvS G W false tb (tg.ty τi Γl) Γe Γk τr fb) (el : leS Γl (clearT cl Γ1) = true) (ee : leS Γl (clearT cl Γe) = true) (ek : leS Γl (clearT cl Γk) = true) :
    EvSP G W Pre (tFor wi g tb) Γ Γl Γb τr fun ρ => (fi ρ).fl fun ds => forX fb tg cl ds (clear cl ρ) := by
  intro ρ σ H z m hp se ok Dn h
  try dsimp only at h
  refine hi ρ σ H z m hp se ok _ (Res.post_mono (post_fl h) (fun ds h J H1 z1 m1 se1 st1 ex1 wk hz => ?_) fun _ h => h)
  obtain ⟨m2, se2, l2⟩ := se1.clear cl
  obtain ⟨z3, m3, se3, st3⟩ := se2.sub el (st1.ok.drop l2)
  have stS := (st1.drop l2).trans st3
  refine ⟨fun i k σc Hc => k = ds.length - i ∧ i ≤ ds.length ∧ ∃ (zc : Addr → Prop) (mc : Ow) (ρc : Env), SE G.F Hc zc Γl ρc σc mc ∧ Ok Hc zc mc ∧ Rch true H1 z1 Hc zc ∧ FlP G W false Γl Γb τr Dn σc Hc zc mc (forX fb tg cl (ds.drop i) ρc),
    ⟨ds.length, by simp, Nat.zero_le _, z3, m3, clear cl ρ, se3, st3.ok, ⟨st3.zz, fun _ _ q _ => q⟩, h.step stS⟩, ?_⟩
  rintro i k σc Hc ⟨rfl, hi, zc, mc, ρc, seC, okC, rc, hC⟩
  obtain ⟨wk1, wk2⟩ := wk i Hc zc rc
  by_cases hlt : i < ds.length
  · have hd : ds[i]? = some ds[i] := List.getElem?_eq_getElem hlt
    obtain ⟨go, yl⟩ := wk1 _ hd
    rw [List.drop_eq_getElem_cons hlt] at hC
    cases e : setTg tg ds[i] ρc with
    | none =>
      rw [forX, e] at hC
      exact hC.elim
    | some ρ1 =>
      rw [forX, e, Res.of_some, Res.fl_ok] at hC
      refine .inr ⟨go, fun σn Hn => i + 1 ≤ ds.length ∧ ∃ (zc : Addr → Prop) (mc : Ow) (ρc : Env), SE G.F Hn zc Γl ρc σn mc ∧ Ok Hn zc mc ∧ Rch true H1 z1 Hn zc ∧ FlP G W false Γl Γb τr Dn σn Hn zc mc (forX fb tg cl (ds.drop (i + 1)) ρc),
        fun σn Hn ⟨hn, w⟩ => ⟨ds.length - (i + 1), by omega, rfl, hn, w⟩, fun x H2 y => ?_⟩
      obtain ⟨new, rpx⟩ := yl x H2 y
      have stN : Stp Hc zc mc H2 zc mc ∧ Ext Hc H2 := by
        rcases new with rfl | ⟨p, o, hp, rfl⟩
        · exact ⟨Stp.refl okC, Ext.refl⟩
        · exact ⟨(Stp.refl okC).ext hp, Ext.new hp⟩
      refine hg _ x ρc σc H2 zc mc (fun _ => 0) (seC.ext stN.2 fun _ q => q) rpx ρ1 e _ fun σ2 m2 se2 l2 _ _ _ => ?_
      have st2 : Stp Hc zc mc H2 zc m2 := stN.1.drop fun b => l2 b
      refine hb ρ1 σ2 H2 zc m2 se2 st2.ok _ ?_
      have hC2 := hC.step (σ' := σ2) st2
      refine FlP.nocont hC2 ek fun ρ2 eb σ' H' z' m' se' st' => ⟨hlt, ?_⟩
      rw [eb] at hC2
      obtain ⟨m4, se4, l4⟩ := se'.clear cl
      obtain ⟨z5, m5, se5, st5⟩ := se4.sub ee (st'.ok.drop l4)
      have stT := (st'.drop l4).trans st5
      refine ⟨z5, m5, clear cl ρ2, se5, st5.ok, ?_, hC2.step stT⟩
      exact (rc.step st2 okC).step stT st2.ok
  · have e : ds.length = i := by omega
    refine .inl ⟨wk2 (by omega), ?_⟩
    rw [e.symm, List.drop_length] at hC
    exact hC σc Hc zc mc seC (Stp.refl okC)
theorem EvS.for {wi : TI} {g : TG} {tb : TS} {tg : Tg} {τi : Ty} {fi : Env → Res (List D)} {fb : Env → Fl} {cl : List Nat} {Γe Γk : TyEnv}
    (hi : EvI G W true wi Γ Γ1 τi fi) (hg : EvG G g tg Γl τi) (hb : EvS G W false tb (tg.ty τi Γl) Γe Γk τr fb) (el : leS Γl (clearT cl Γ1) = true) (ee : leS Γl (clearT cl Γe) = true) (ek : leS Γl (clearT cl Γk) = true) :
    EvS G W false (tFor wi g tb) Γ Γl Γb τr fun ρ => (fi ρ).fl fun ds => forX fb tg cl ds (clear cl ρ) :=
  fun ρ σ H z m se ok Dn h => EvS.forP (Pre := fun _ _ => True) (fun ρ σ H z m _ => hi ρ σ H z m) hg hb el ee ek ρ σ H z m trivial se ok Dn h
theorem EvS.while {tt : TT} {tb : TS} {ft : Env → Res Bool} {fb : Env → Fl} {cl : List Nat} {Γe Γk : TyEnv} {n : Nat}
    (ht : EvT G W tt Γl ft) (hb : EvS G W false tb Γl Γe Γk τr fb) (el : leS Γl (clearT cl Γ) = true) (ee : leS Γl (clearT cl Γe) = true) (ek : leS Γl (clearT cl Γk) = true) :
    EvS G W false (tWhile tt tb) Γ Γl Γb τr fun ρ => whileX ft fb cl n (clear cl ρ) := by
  intro ρ σ H z m se ok Dn h
  try dsimp only at h
  obtain ⟨m2, se2, l2⟩ := se.clear cl
  obtain ⟨z3, m3, se3, st3⟩ := se2.sub el (ok.drop l2)
  have stS := ((Stp.refl ok).drop l2).trans st3
  refine ⟨fun k σc Hc => ∃ (zc : Addr → Prop) (mc : Ow) (ρc : Env), SE G.F Hc zc Γl ρc σc mc ∧ Ok Hc zc mc ∧ FlP G W false Γl Γb τr Dn σc Hc zc mc (whileX ft fb cl k ρc),
    ⟨n, z3, m3, clear cl ρ, se3, st3.ok, h.step stS⟩, ?_⟩
  rintro k σc Hc ⟨zc, mc, ρc, seC, okC, hC⟩
  cases k with
  | zero => exact hC.elim
  | succ k =>
    have hP : (ft ρc).post (fun b => FlP G W false Γl Γb τr Dn σc Hc zc mc (if b = true then loopK (fb ρc) (whileX ft fb cl k) cl else .nx ρc)) (XOk G W σc Hc) := by
      rw [whileX] at hC
      exact post_fl hC
    refine ht ρc σc Hc zc mc seC okC _ (Res.post_mono hP (fun b hP H1 z1 m1 se1 st1 ex1 => ?_) fun _ h => h)
    cases b with
    | true =>
      simp only [if_true] at hP ⊢
      refine ⟨fun σn Hn => ∃ (zc : Addr → Prop) (mc : Ow) (ρc : Env), SE G.F Hn zc Γl ρc σn mc ∧ Ok Hn zc mc ∧ FlP G W false Γl Γb τr Dn σn Hn zc mc (whileX ft fb cl k ρc), fun σ' H' w => ⟨k, by omega, w⟩, ?_⟩
      refine hb ρc σc H1 z1 m1 se1 st1.ok _ ?_
      have hC2 := hP.step (σ' := σc) st1
      refine FlP.nocont hC2 ek fun ρ2 eb σ' H' z' m' se' st' => ?_
      rw [eb] at hC2
      obtain ⟨m4, se4, l4⟩ := se'.clear cl
      obtain ⟨z5, m5, se5, st5⟩ := se4.sub ee (st'.ok.drop l4)
      have stT := (st'.drop l4).trans st5
      exact ⟨z5, m5, clear cl ρ2, se5, st5.ok, hC2.step stT⟩
    | false =>
      simp only [Bool.false_eq_true, if_false] at hP ⊢
      exact hP σc H1 z1 m1 se1 st1
end En

set_option Elab.async false
set_option linter.all false
set_option autoImplicit false
set_option maxRecDepth 100000
namespace L2
open PySem PySem.Spec PyProof.Rows
section
variable {X : Cx}
/-- list + list, wherever they stand -/
def rCatL (K : PySem.W.Frag) : R2 := fun x y H Q => ∃ l b xs zs, x = .ref l ∧ y = .ref b ∧ SqL K H l xs ∧ SqL K H b zs ∧ xs.length + zs.length ≤ sizeLine ∧ ∀ p, H p = none → Q (.ref p) (upd H p (.lst (xs ++ zs)))
theorem op_catL : OpR X (binaryOp .Add) (rCatL X.K) := by
  intro pins s σ H x y v u Q I rx ry h
  obtain ⟨l, b, xs, zs, rfl, rfl, hH, hB, hz, q⟩ := h
  cases rx
  cases ry
  obtain ⟨its, r, pl, _⟩ := I.list hH
  obtain ⟨its2, r2, pl2, _⟩ := I.list hB
  have hl := r.length
  have hl2 := r2.length
  obtain ⟨⟨cls, dd, data, sl⟩, ho, hc, n, hd⟩ := pl.isList
  obtain ⟨⟨cls2, dd2, data2, sl2⟩, ho2, hc2, n2, hd2⟩ := pl2.isList
  simp only at hc hd hc2 hd2
  subst hc hd hc2 hd2
  have e : its.toArray ++ its2.toArray = (its ++ its2).toArray := by simp
  refine concat_meets ⟨_, ho, rfl⟩ ⟨_, ho2, rfl⟩ noFill_list_add seq_list_add PySem.F.slot_list_add PySem.F.entry_list_add (PySem.F.args_list_add_2 _ _) (list_addW l b its.toArray its2.toArray n n2 dd dd2 sl sl2 (by simp; omega)) ⟨ho, ho2, ?_⟩
  rw [e]
  exact ⟨.ref _, _, I.lnew (t' := s.toks) (r.append r2) (by rw [List.length_append]; omega), rfl, q _ I.fresh⟩
def rInU (K : PySem.W.Frag) : R2 := fun x y H Q => ∃ d ds, Dp K H x d ∧ Dp K H y (.tuple ds) ∧ SeqAt.shaped d = true ∧ SeqAt.shaped (.tuple ds) = true ∧ Q (.bl (ds.any fun z => PyData.eqv z d)) H
def rNotInU (K : PySem.W.Frag) : R2 := fun x y H Q => ∃ d ds, Dp K H x d ∧ Dp K H y (.tuple ds) ∧ SeqAt.shaped d = true ∧ SeqAt.shaped (.tuple ds) = true ∧ Q (.bl (!ds.any fun z => PyData.eqv z d)) H
theorem room_in_tuple {A : Around} {d : PyData} {ds : List PyData} (h : SeqAt.shaped d = true) (hu : A.units + 65 < cLine) : A.units + 1 + min (PyData.depthAll ds) d.depth < cLine := by
  have := SeqAt.depth_of_shaped h
  omega
theorem op_inU (hu : X.A.units + 65 < cLine) : OpR X (compareOp .In) (rInU X.K) := by
  intro pins s σ H x y v u Q I rx ry h
  obtain ⟨d, ds, hd, he, sd, se, q⟩ := h
  obtain ⟨as, r1⟩ := Dp.reads I d x v hd rx
  obtain ⟨bs, r2⟩ := Dp.reads I (.tuple ds) y u he ry
  exact SeqAt.in_tuple_reads r2 r1 (SeqAt.canLay_of_shaped se) (SeqAt.canLay_of_shaped sd) (room_in_tuple sd hu) ⟨.bl _, H, I, rfl, q⟩
theorem op_notInU (hu : X.A.units + 65 < cLine) : OpR X (compareOp .NotIn) (rNotInU X.K) := by
  intro pins s σ H x y v u Q I rx ry h
  obtain ⟨d, ds, hd, he, sd, se, q⟩ := h
  obtain ⟨as, r1⟩ := Dp.reads I d x v hd rx
  obtain ⟨bs, r2⟩ := Dp.reads I (.tuple ds) y u he ry
  exact SeqAt.notIn_tuple_reads r2 r1 (SeqAt.canLay_of_shaped se) (SeqAt.canLay_of_shaped sd) (room_in_tuple sd hu) ⟨.bl _, H, I, rfl, q⟩
/-- sorted(xs) of data -/
def rSrt (K : PySem.W.Frag) : List V → Hp → VK → Prop := fun vs H Q => ∃ (a : Addr) (xs : List V) (ds : List PyData), vs = [V.ref a] ∧ SqL K H a xs ∧ DpAll K H xs ds ∧ En.srtOk ds = true ∧
  ∀ p, H p = none → Q (.ref p) (upd H p (.lst (((ds.zip xs).mergeSort (PySem.W.dataLe false Prod.fst)).map Prod.snd)))
theorem DpAll.len {K : PySem.W.Frag} {H : Hp} : ∀ {xs : List V} {ds : List PyData}, DpAll K H xs ds → xs.length = ds.length
  | _, _, .nil => rfl
  | _, _, .cons _ t => by simp [DpAll.len t]
theorem each_vals : ∀ {its : List Value} {xs : List V} {ds : List PyData}, Vals xs its → xs.length = ds.length → PySem.W.EachIs (fun (u : Value) (p : PyData × V) => RelV p.2 u) its (ds.zip xs)
  | _, _, [], .nil, _ => .nil
  | _, _, [], .cons _ _, h => by cases h
  | _, _, _ :: _, .nil, h => by cases h
  | _, _, d :: ds, .cons r t, h => .cons r (each_vals t (by simpa using h))
theorem vals_each : ∀ {its : List Value} {ps : List (PyData × V)}, PySem.W.EachIs (fun (u : Value) (p : PyData × V) => RelV p.2 u) its ps → Vals (ps.map Prod.snd) its
  | _, _, .nil => .nil
  | _, _, .cons r t => .cons r (vals_each t)
theorem call_srt (hr : X.A.units + 64 < cLine) : CallR X (.builtin "sorted") (rSrt X.K) := by
  intro pins s σ H vs us Q I r h
  obtain ⟨a, xs, ds, rfl, hs, hd, hok, q⟩ := h
  obtain ⟨its, rv, hl, hz⟩ := I.list hs
  rw [Vals.ref1 r]
  have hlen := hd.len
  obtain ⟨as, rd⟩ := Dp.readsAll I ds xs its hd rv
  have hz1 : (ds.zip xs).map Prod.fst = ds := by rw [List.map_fst_zip]; omega
  have er := PySem.W.readsAll_each (h := s.heap) (β := PyData × V) Prod.fst (vs := its) (bs := ds.zip xs) (as := as) (by rw [hz1]; exact rd)
  unfold En.srtOk at hok
  simp only [Bool.and_eq_true, Bool.or_eq_true, List.all_eq_true, decide_eq_true_eq, En.allAlike] at hok
  obtain ⟨⟨h1, h2⟩, h3⟩ := hok
  refine PySem.W.sorted_data (β := PyData × V) (bs := ds.zip xs) (enc := Prod.fst) hl.isList (each_vals rv hlen) er (by rw [hz1]; exact h1) ?_ (by rw [List.length_zip]; omega) (fun b hb => ?_) fun out ho eo => ?_
  · rw [hz1]
    rcases h2 with h2 | h2
    · refine .inl fun d hd => ?_
      have := h2 d hd
      unfold En.tupHd at this
      split at this
      · exact ⟨_, _, rfl⟩
      · cases this
    · refine .inr fun d hd => ?_
      have := h2 d hd
      unfold En.othHd at this
      split at this
      · cases this
      · cases this
      · rename_i n1 n2
        exact ⟨fun e => n2 e, fun xs e => n1 xs e⟩
  · have := h3 b.1 (List.of_mem_zip hb).1
    omega
  · obtain ⟨ep, he'⟩ := PyProof.Rows.sortedAll_at s.heap its out.toArray
    have vv := vals_each eo
    have hlen2 : ((((ds.zip xs).mergeSort (PySem.W.dataLe false Prod.fst)).map Prod.snd)).length ≤ sizeLine := by rw [List.length_map, List.length_mergeSort, List.length_zip]; omega
    exact ⟨.ref _, upd H (s.heap.objs.size + 1) (.lst _), I.laid (t' := s.toks) (fun _ _ => PyProof.Rows.sortedAll_old) (Nat.le_succ _) ⟨hlen2, out, ep, vv, he'⟩, rfl, q _ (I.hok.fresh (Nat.le_succ _))⟩
/-- what is there to be read is not too long -/
def SzH (K : PySem.W.Frag) (H : Hp) : Prop := ∀ a xs, SqL K H a xs ∨ SqT K H a xs → xs.length ≤ sizeLine
def tSz (K : PySem.W.Frag) (t : TE) : TE := fun σ H Q => t σ H fun v H1 => SzH K H1 → Q v H1
theorem pe_sz {e : Expr} {t : TE} (h : PE X e t) : PE X e (tSz X.K t) := ⟨fun pins s σ H Q I hw => thn (h.run pins s σ H _ I hw) fun u s1 ⟨v, H1, I1, r, q⟩ => ⟨v, H1, I1, r, q fun a xs h => by
  rcases h with h | h
  · obtain ⟨_, _, _, z⟩ := I1.list h; exact z
  · obtain ⟨_, _, _, z⟩ := I1.tuple h; exact z⟩⟩
end
end L2

set_option Elab.async false
set_option linter.all false
set_option autoImplicit false
set_option maxRecDepth 100000
/-! max and min of data -/
namespace PySem.W
open PySem PySem.Spec PyProof.Rows
section
variable {prog : Program} {w : World} {A : Around} {E : Value → Shared → Prop} {s : Shared}
theorem call_max_twoH {a b : Value} {Q : Value → Shared → Prop}
    (h : wpAny (model prog w) A.in1 (pyIter (.ref s.heap.objs.size)) (fun it s₂ => ∃ I fp wr G n P St H bt, it = .ref I ∧ WalksS prog w A.in1 I fp wr G n P St ∧ St 0 s₂ ∧ (∀ b ∈ fp, b < s₂.heap.objs.size) ∧ 0 < n ∧
      (∀ b o, H.get? b = some o → b ∉ wr) ∧ (∀ b o, H.get? b = some o → s₂.heap.get? b = some o) ∧ CmpIn prog w A.in1 .Gt H P bt ∧ ∀ v s', P (argBest bt (n - 1)) v → Moved wr G s₂ s' → Q v s') E
      { s with heap := s.heap.push { cls := .type "tuple", data := .seq #[a, b] } }) :
    wpAny (model prog w) A (call (.builtin "max") [a, b]) Q E s := by
  have hname : (toString "max" ++ toString ".loop" : String) = "max.loop" := by decide
  refine call_function_tree F.kind_max F.plain_max F.entry_max (F.args_max2 _ _) ?_
  show wpAny _ A.in1 (Builtin.Builtins.bindParams "max" ["key", "default"] 0 ⟨[], []⟩ >>= _) _ _ s
  refine wpAny_bind (wpAny_of_eq (show Builtin.Builtins.bindParams "max" ["key", "default"] 0 ⟨[], []⟩ = pure [none, none] from rfl) ?_)
  show wpAny _ A.in1 (newTuple [a, b] >>= _) _ _ s
  refine wpAny_bind (wpAny_newObj_type ?_)
  refine wpAny_bind (wpAny_mono h (fun it s₂ h₂ => ?_) fun _ _ e => e)
  obtain ⟨I, fp, wr, G, n, P, St, H, bt, rfl, W, hst, hfp, hn, hw, hkeep, hcmp, hQ⟩ := h₂
  refine wpAny_bind (wpAny_newObj_type ?_)
  have hSf : s₂.heap.objs.size ∉ fp := fun hm => Nat.lt_irrefl _ (hfp _ hm)
  rw [hname]
  refine wpAny_pure ⟨plainId_quiet F.plain_max_loop _, codeAny_max_loop_firstH W H hw bt hcmp s₂.heap.objs.size hSf (fresh_in hkeep) _ hn (fun b o e => Heap.get?_push_of_some _ (hkeep b o e)) (W.frame 0 s₂ _ s₂.toks hst (Nat.le_refl _) fun b _ o e => Heap.get?_push_of_some _ e) (Heap.get?_push_size _ rfl) fun v s' hP hm => ?_⟩
  exact hQ v s' hP (Moved.drop_new (tk := s₂.toks) hm (Nat.le_refl _))
theorem call_min_twoH {a b : Value} {Q : Value → Shared → Prop}
    (h : wpAny (model prog w) A.in1 (pyIter (.ref s.heap.objs.size)) (fun it s₂ => ∃ I fp wr G n P St H bt, it = .ref I ∧ WalksS prog w A.in1 I fp wr G n P St ∧ St 0 s₂ ∧ (∀ b ∈ fp, b < s₂.heap.objs.size) ∧ 0 < n ∧
      (∀ b o, H.get? b = some o → b ∉ wr) ∧ (∀ b o, H.get? b = some o → s₂.heap.get? b = some o) ∧ CmpIn prog w A.in1 .Lt H P bt ∧ ∀ v s', P (argBest bt (n - 1)) v → Moved wr G s₂ s' → Q v s') E
      { s with heap := s.heap.push { cls := .type "tuple", data := .seq #[a, b] } }) :
    wpAny (model prog w) A (call (.builtin "min") [a, b]) Q E s := by
  have hname : (toString "min" ++ toString ".loop" : String) = "min.loop" := by decide
  refine call_function_tree F.kind_min F.plain_min F.entry_min (F.args_min2 _ _) ?_
  show wpAny _ A.in1 (Builtin.Builtins.bindParams "min" ["key", "default"] 0 ⟨[], []⟩ >>= _) _ _ s
  refine wpAny_bind (wpAny_of_eq (show Builtin.Builtins.bindParams "min" ["key", "default"] 0 ⟨[], []⟩ = pure [none, none] from rfl) ?_)
  show wpAny _ A.in1 (newTuple [a, b] >>= _) _ _ s
  refine wpAny_bind (wpAny_newObj_type ?_)
  refine wpAny_bind (wpAny_mono h (fun it s₂ h₂ => ?_) fun _ _ e => e)
  obtain ⟨I, fp, wr, G, n, P, St, H, bt, rfl, W, hst, hfp, hn, hw, hkeep, hcmp, hQ⟩ := h₂
  refine wpAny_bind (wpAny_newObj_type ?_)
  have hSf : s₂.heap.objs.size ∉ fp := fun hm => Nat.lt_irrefl _ (hfp _ hm)
  rw [hname]
  refine wpAny_pure ⟨plainId_quiet F.plain_min_loop _, codeAny_min_loop_firstH W H hw bt hcmp s₂.heap.objs.size hSf (fresh_in hkeep) _ hn (fun b o e => Heap.get?_push_of_some _ (hkeep b o e)) (W.frame 0 s₂ _ s₂.toks hst (Nat.le_refl _) fun b _ o e => Heap.get?_push_of_some _ e) (Heap.get?_push_size _ rfl) fun v s' hP hm => ?_⟩
  exact hQ v s' hP (Moved.drop_new (tk := s₂.toks) hm (Nat.le_refl _))
theorem max_two_data {a b : Value} {x y : PyData} {as bs : List Addr} {Q : Value → Shared → Prop} (hh : A.handled = none) (ra : Reads s.heap a x as) (rb : Reads s.heap b y bs) (al : AlikeAll [x, y]) (hu : A.units + 1 + PyData.depthAll [x, y] < cLine)
    (h : ∀ h' tk, (∀ b o, s.heap.get? b = some o → h'.get? b = some o) → Q (if dataLt x y then b else a) { s with heap := h', toks := tk }) :
    wpAny (model prog w) A (call (.builtin "max") [a, b]) Q E s := by
  have hT : (s.heap.push { cls := .type "tuple", data := .seq #[a, b] }).IsTuple s.heap.objs.size #[a, b] := ⟨_, Heap.get?_push_size _ rfl, rfl, 0, rfl⟩
  have kp : ∀ b' o, s.heap.get? b' = some o → (s.heap.push { cls := .type "tuple", data := .seq #[a, b] }).get? b' = some o := fun _ _ e => Heap.get?_push_of_some _ e
  have hr : ReadsAll (s.heap.push { cls := .type "tuple", data := .seq #[a, b] }) #[a, b].toList [x, y] (as ++ (bs ++ [])) := .cons (reads_keeps kp ra) (.cons (reads_keeps kp rb) .nil)
  refine call_max_twoH (iter_tupleW (A := A.in1) hh hT fun s₂ e W st hfp hw hk => ?_)
  refine ⟨_, _, _, _, _, _, _, _, _, rfl, W, st, hfp, Nat.zero_lt_succ 1, hw, hk, cmpIn_gt (s := { s with heap := s.heap.push { cls := .type "tuple", data := .seq #[a, b] } }) (A := A.in1) hr al (by show A.units + 1 + _ < _; exact hu), fun v s' hP m => ?_⟩
  obtain ⟨h', tk, rfl, hk'⟩ := moved_old e rfl m
  have e1 : v = if dataLt x y then b else a := by
    have hP : #[a, b][argBest (fun i j => dataLt ([x, y].getD j .none) ([x, y].getD i .none)) 1]? = some v := hP
    have e2 : argBest (fun i j => dataLt ([x, y].getD j .none) ([x, y].getD i .none)) 1 = if dataLt x y then 1 else 0 := rfl
    rw [e2] at hP
    cases hd : dataLt x y with
    | true => rw [hd] at hP; cases hP; rfl
    | false => rw [hd] at hP; cases hP; rfl
  subst e1
  exact h h' tk fun b' o e' => hk' b' o (kp b' o e')
theorem min_two_data {a b : Value} {x y : PyData} {as bs : List Addr} {Q : Value → Shared → Prop} (hh : A.handled = none) (ra : Reads s.heap a x as) (rb : Reads s.heap b y bs) (al : AlikeAll [x, y]) (hu : A.units + 1 + PyData.depthAll [x, y] < cLine)
    (h : ∀ h' tk, (∀ b o, s.heap.get? b = some o → h'.get? b = some o) → Q (if dataLt y x then b else a) { s with heap := h', toks := tk }) :
    wpAny (model prog w) A (call (.builtin "min") [a, b]) Q E s := by
  have hT : (s.heap.push { cls := .type "tuple", data := .seq #[a, b] }).IsTuple s.heap.objs.size #[a, b] := ⟨_, Heap.get?_push_size _ rfl, rfl, 0, rfl⟩
  have kp : ∀ b' o, s.heap.get? b' = some o → (s.heap.push { cls := .type "tuple", data := .seq #[a, b] }).get? b' = some o := fun _ _ e => Heap.get?_push_of_some _ e
  have hr : ReadsAll (s.heap.push { cls := .type "tuple", data := .seq #[a, b] }) #[a, b].toList [x, y] (as ++ (bs ++ [])) := .cons (reads_keeps kp ra) (.cons (reads_keeps kp rb) .nil)
  refine call_min_twoH (iter_tupleW (A := A.in1) hh hT fun s₂ e W st hfp hw hk => ?_)
  refine ⟨_, _, _, _, _, _, _, _, _, rfl, W, st, hfp, Nat.zero_lt_succ 1, hw, hk, cmpIn_lt (s := { s with heap := s.heap.push { cls := .type "tuple", data := .seq #[a, b] } }) (A := A.in1) hr al (by show A.units + 1 + _ < _; exact hu), fun v s' hP m => ?_⟩
  obtain ⟨h', tk, rfl, hk'⟩ := moved_old e rfl m
  have e1 : v = if dataLt y x then b else a := by
    have hP : #[a, b][argBest (fun i j => dataLt ([x, y].getD i .none) ([x, y].getD j .none)) 1]? = some v := hP
    have e2 : argBest (fun i j => dataLt ([x, y].getD i .none) ([x, y].getD j .none)) 1 = if dataLt y x then 1 else 0 := rfl
    rw [e2] at hP
    cases hd : dataLt y x with
    | true => rw [hd] at hP; cases hP; rfl
    | false => rw [hd] at hP; cases hP; rfl
  subst e1
  exact h h' tk fun b' o e' => hk' b' o (kp b' o e')
end
end PySem.W
namespace L2
open PySem PySem.Spec PyProof.Rows
section
variable {X : Cx}
open En (mmOk)
theorem mmOk_al {ds : List PyData} (h : mmOk ds = true) : PySem.W.AlikeAll ds ∧ ∀ d ∈ ds, d.depth ≤ 32 := by
  unfold En.mmOk En.allAlike at h
  simp only [Bool.and_eq_true, List.all_eq_true, decide_eq_true_eq] at h
  refine ⟨⟨h.1.1, fun d hd e => ?_⟩, h.2⟩
  have := h.1.2 d hd
  rw [e] at this
  cases this
theorem depthAll_le {n : Nat} : ∀ {ds : List PyData}, (∀ d ∈ ds, d.depth ≤ n) → PyData.depthAll ds ≤ n
  | [], _ => by simp [PyData.depthAll]
  | d :: ds, h => by
    simp only [PyData.depthAll]
    have h1 := h d List.mem_cons_self
    have h2 := depthAll_le (ds := ds) fun x hx => h x (List.mem_cons_of_mem _ hx)
    omega
def rMx2D (K : PySem.W.Frag) : List V → Hp → VK → Prop := fun vs H Q => ∃ x y d e, vs = [x, y] ∧ Dp K H x d ∧ Dp K H y e ∧ mmOk [d, e] = true ∧ Q (if PySem.W.dataLt d e then y else x) H
def rMn2D (K : PySem.W.Frag) : List V → Hp → VK → Prop := fun vs H Q => ∃ x y d e, vs = [x, y] ∧ Dp K H x d ∧ Dp K H y e ∧ mmOk [d, e] = true ∧ Q (if PySem.W.dataLt e d then y else x) H
theorem call_mx2D (hc : X.calm = true) (hr : X.A.units + 64 < cLine) : CallR X (.builtin "max") (rMx2D X.K) := by
  intro pins s σ H vs us Q I r h
  obtain ⟨x, y, d, e, rfl, hx, hy, hok, q⟩ := h
  obtain ⟨u, w', rfl, rx, ry⟩ := vals2 r
  obtain ⟨as, r1⟩ := Dp.reads I d x u hx rx
  obtain ⟨bs, r2⟩ := Dp.reads I e y w' hy ry
  obtain ⟨al, dp⟩ := mmOk_al hok
  refine PySem.W.max_two_data (I.ok.hd hc) r1 r2 al (by have := depthAll_le dp; omega) fun h' tk k => ⟨_, H, I.kept k, ?_, q⟩
  by_cases hj : PySem.W.dataLt d e = true
  · rw [if_pos hj, if_pos hj]; exact ry
  · rw [if_neg hj, if_neg hj]; exact rx
theorem call_mn2D (hc : X.calm = true) (hr : X.A.units + 64 < cLine) : CallR X (.builtin "min") (rMn2D X.K) := by
  intro pins s σ H vs us Q I r h
  obtain ⟨x, y, d, e, rfl, hx, hy, hok, q⟩ := h
  obtain ⟨u, w', rfl, rx, ry⟩ := vals2 r
  obtain ⟨as, r1⟩ := Dp.reads I d x u hx rx
  obtain ⟨bs, r2⟩ := Dp.reads I e y w' hy ry
  obtain ⟨al, dp⟩ := mmOk_al hok
  refine PySem.W.min_two_data (I.ok.hd hc) r1 r2 al (by have := depthAll_le dp; omega) fun h' tk k => ⟨_, H, I.kept k, ?_, q⟩
  by_cases hj : PySem.W.dataLt e d = true
  · rw [if_pos hj, if_pos hj]; exact ry
  · rw [if_neg hj, if_neg hj]; exact rx
/-- x < y of data -/
def rLtD (K : PySem.W.Frag) : R2 := fun x y H Q => ∃ d e, Dp K H x d ∧ Dp K H y e ∧ mmOk [d, e] = true ∧ Q (.bl (PySem.W.dataLt d e)) H
theorem op_ltD (hu : X.A.units + 64 < cLine) : OpR X (compareOp .Lt) (rLtD X.K) := by
  intro pins s σ H x y v u Q I rx ry h
  obtain ⟨d, e, hd, he, hok, q⟩ := h
  obtain ⟨as, r1⟩ := Dp.reads I d x v hd rx
  obtain ⟨bs, r2⟩ := Dp.reads I e y u he ry
  obtain ⟨al, dp⟩ := mmOk_al hok
  have h1 := dp d (by simp)
  exact PySem.W.rcLt_alike d e X.A s v u as bs r1 r2 (al.1 d (by simp) e (by simp)) (al.2 d (by simp)) (by omega) _ _ _ _ ⟨.bl _, H, I, rfl, q⟩
end
end L2

set_option Elab.async false
set_option linter.all false
set_option autoImplicit false
set_option maxRecDepth 100000
set_option maxHeartbeats 1000000
namespace PySem.W
open PySem PySem.Calls PyProof.Rows
section
variable {prog : Program} {w : World} {A : Around} {s : Shared} {E : Value → Shared → Prop}
theorem best_at {f : PyData → PyData → Bool} {vs : Array Value} {x : PyData} {xs : List PyData} {v : Value} (hn : vs.size = xs.length + 1) (hP : vs[argBest (fun i j => f ((x :: xs).getD i .none) ((x :: xs).getD j .none)) (vs.size - 1)]? = some v) :
    ∃ i : Nat, vs[i]? = some v ∧ (x :: xs)[i]? = some (xs.foldl (fun a y => if f y a then y else a) x) := by
  have e1 : vs.size - 1 = xs.length := by omega
  rw [e1] at hP
  have e2 := (argBest_fold f PyData.none x xs xs.length (Nat.le_refl _)).2
  rw [List.take_length] at e2
  refine ⟨_, hP, ?_⟩
  have hl : argBest (fun i j => f ((x :: xs).getD i .none) ((x :: xs).getD j .none)) xs.length < (x :: xs).length := by
    have := (Array.getElem?_eq_some_iff.mp hP).1
    rw [List.length_cons]
    omega
  rw [List.getElem?_eq_getElem hl, ← e2, List.getD_eq_getElem?_getD, List.getElem?_eq_getElem hl]
  rfl
theorem min_list_at {l : Addr} {vs : Array Value} {x : PyData} {xs : List PyData} {as : List Addr} {Q : Value → Shared → Prop} (hh : A.handled = none) (hl : s.heap.IsList l vs) (hr : ReadsAll s.heap vs.toList (x :: xs) as) (ha : AlikeAll (x :: xs)) (hu : A.units + 1 + PyData.depthAll (x :: xs) < cLine)
    (h : ∀ (i : Nat) v h' tk, vs[i]? = some v → (x :: xs)[i]? = some (minD x xs) → (∀ b o, s.heap.get? b = some o → h'.get? b = some o) → Q v { s with heap := h', toks := tk }) :
    wpAny (model prog w) A (call (.builtin "min") [.ref l]) Q E s := by
  have hn : vs.size = xs.length + 1 := readsAll_len hr
  refine call_min_walkH (iter_listW (A := A.in1) hh hl fun s₂ e W st hfp hw hk => ?_)
  refine ⟨_, _, _, _, _, _, _, s.heap, _, rfl, W, st, hfp, by omega, hw, hk, cmpIn_lt (A := A.in1) hr ha (by show A.units + 1 + _ < _; exact hu), fun v s' hP m => ?_⟩
  obtain ⟨h', tk, rfl, hk'⟩ := moved_old e rfl m
  obtain ⟨i, h1, h2⟩ := best_at (f := dataLt) hn hP
  exact h i v h' tk h1 h2 hk'
theorem max_list_at {l : Addr} {vs : Array Value} {x : PyData} {xs : List PyData} {as : List Addr} {Q : Value → Shared → Prop} (hh : A.handled = none) (hl : s.heap.IsList l vs) (hr : ReadsAll s.heap vs.toList (x :: xs) as) (ha : AlikeAll (x :: xs)) (hu : A.units + 1 + PyData.depthAll (x :: xs) < cLine)
    (h : ∀ (i : Nat) v h' tk, vs[i]? = some v → (x :: xs)[i]? = some (maxD x xs) → (∀ b o, s.heap.get? b = some o → h'.get? b = some o) → Q v { s with heap := h', toks := tk }) :
    wpAny (model prog w) A (call (.builtin "max") [.ref l]) Q E s := by
  have hn : vs.size = xs.length + 1 := readsAll_len hr
  refine call_max_walkH (iter_listW (A := A.in1) hh hl fun s₂ e W st hfp hw hk => ?_)
  refine ⟨_, _, _, _, _, _, _, s.heap, _, rfl, W, st, hfp, by omega, hw, hk, cmpIn_gt (A := A.in1) hr ha (by show A.units + 1 + _ < _; exact hu), fun v s' hP m => ?_⟩
  obtain ⟨h', tk, rfl, hk'⟩ := moved_old e rfl m
  obtain ⟨i, h1, h2⟩ := best_at (f := fun a b => dataLt b a) hn hP
  exact h i v h' tk h1 h2 hk'
theorem min_list_dflt {l : Addr} {vs : Array Value} {xs : List PyData} {as : List Addr} {d : Value} {Q : Value → Shared → Prop} (hh : A.handled = none) (hl : s.heap.IsList l vs) (hr : ReadsAll s.heap vs.toList xs as) (ha : AlikeAll xs) (hu : A.units + 1 + PyData.depthAll xs < cLine)
    (h0 : xs = [] → ∀ h' tk, (∀ b o, s.heap.get? b = some o → h'.get? b = some o) → Q d { s with heap := h', toks := tk })
    (h : ∀ (y : PyData) (ys : List PyData) (i : Nat) v h' tk, xs = y :: ys → vs[i]? = some v → (y :: ys)[i]? = some (minD y ys) → (∀ b o, s.heap.get? b = some o → h'.get? b = some o) → Q v { s with heap := h', toks := tk }) :
    wpAny (model prog w) A (call (.builtin "min") [.ref l] [(Str.ofString "default", d)]) Q E s := by
  have hn : vs.size = xs.length := readsAll_len hr
  refine call_min_walkD (iter_listW (A := A.in1) hh hl fun s₂ e W st hfp hw hk => ?_)
  refine ⟨_, _, _, _, _, _, _, s.heap, (fun i j => dataLt (xs.getD i .none) (xs.getD j .none)), rfl, W, st, hfp, hw, hk, fun hz s' m => ?_, fun hp => ⟨cmpIn_lt (A := A.in1) hr ha (by show A.units + 1 + _ < _; exact hu), fun v s' hP m => ?_⟩⟩
  · obtain ⟨h', tk, rfl, hk'⟩ := moved_old e rfl m
    exact h0 (List.eq_nil_of_length_eq_zero (by omega)) h' tk hk'
  · obtain ⟨h', tk, rfl, hk'⟩ := moved_old e rfl m
    cases xs with
    | nil => exact absurd hp (by rw [hn]; exact Nat.lt_irrefl 0)
    | cons y ys =>
      obtain ⟨i, h1, h2⟩ := best_at (f := dataLt) hn hP
      exact h y ys i v h' tk rfl h1 h2 hk'
end
end PySem.W
namespace L2
open PySem PySem.Spec PyProof.Rows
open En (mmOk)
section
variable {X : Cx}
/-- min, max of a list of data -/
def rMnLD (K : PySem.W.Frag) : List V → Hp → VK → Prop := fun vs H Q => ∃ (a : Addr) (xs : List V) (d : PyData) (ds : List PyData), vs = [.ref a] ∧ SqL K H a xs ∧ DpAll K H xs (d :: ds) ∧ mmOk (d :: ds) = true ∧ ∀ (i : Nat) (v : V), xs[i]? = some v → (d :: ds)[i]? = some (PySem.W.minD d ds) → Q v H
def rMxLD (K : PySem.W.Frag) : List V → Hp → VK → Prop := fun vs H Q => ∃ (a : Addr) (xs : List V) (d : PyData) (ds : List PyData), vs = [.ref a] ∧ SqL K H a xs ∧ DpAll K H xs (d :: ds) ∧ mmOk (d :: ds) = true ∧ ∀ (i : Nat) (v : V), xs[i]? = some v → (d :: ds)[i]? = some (PySem.W.maxD d ds) → Q v H
def rMnLN (K : PySem.W.Frag) : List V → Hp → VK → Prop := fun vs H Q => ∃ (a : Addr) (xs : List V) (ds : List PyData), vs = [.ref a] ∧ SqL K H a xs ∧ DpAll K H xs ds ∧ mmOk ds = true ∧ (ds = [] → Q .non H) ∧ ∀ (d : PyData) (r : List PyData) (i : Nat) (v : V), ds = d :: r → xs[i]? = some v → (d :: r)[i]? = some (PySem.W.minD d r) → Q v H
theorem valOf {its : List Value} {xs : List V} {i : Nat} {u : Value} (r : Vals xs its) (h : its.toArray[i]? = some u) : ∃ v, xs[i]? = some v ∧ RelV v u := by
  have h' : its[i]? = some u := by simpa using h
  cases e : xs[i]? with
  | none => rw [r.none_of e] at h'; cases h'
  | some v =>
    obtain ⟨u', h1, h2⟩ := r.get e
    rw [h'] at h1
    cases h1
    exact ⟨v, rfl, h2⟩
theorem call_mnLD (hc : X.calm = true) (hr : X.A.units + 64 < cLine) : CallR X (.builtin "min") (rMnLD X.K) := by
  intro pins s σ H vs us Q I r h
  obtain ⟨a, xs, d, ds, rfl, hs, hd, hok, q⟩ := h
  obtain ⟨its, rv, hl, hz⟩ := I.list hs
  rw [Vals.ref1 r]
  obtain ⟨as, rd⟩ := Dp.readsAll I (d :: ds) xs its hd rv
  obtain ⟨al, dp⟩ := mmOk_al hok
  refine PySem.W.min_list_at (I.ok.hd hc) hl.isList (by simpa using rd) al (by have := depthAll_le dp; omega) fun i v h' tk e1 e2 k => ?_
  obtain ⟨y, hy, ry⟩ := valOf rv e1
  exact ⟨y, H, I.kept k, ry, q i y hy e2⟩
theorem call_mxLD (hc : X.calm = true) (hr : X.A.units + 64 < cLine) : CallR X (.builtin "max") (rMxLD X.K) := by
  intro pins s σ H vs us Q I r h
  obtain ⟨a, xs, d, ds, rfl, hs, hd, hok, q⟩ := h
  obtain ⟨its, rv, hl, hz⟩ := I.list hs
  rw [Vals.ref1 r]
  obtain ⟨as, rd⟩ := Dp.readsAll I (d :: ds) xs its hd rv
  obtain ⟨al, dp⟩ := mmOk_al hok
  refine PySem.W.max_list_at (I.ok.hd hc) hl.isList (by simpa using rd) al (by have := depthAll_le dp; omega) fun i v h' tk e1 e2 k => ?_
  obtain ⟨y, hy, ry⟩ := valOf rv e1
  exact ⟨y, H, I.kept k, ry, q i y hy e2⟩
/-- min(x, default=None) -/
theorem pe_mnLN {e : Expr} {te : TE} {p pos kp cp : Pos} {n : Nat} (hc : X.calm = true) (hr : X.A.units + 64 < cLine) (hg : Gl X "min") (hm : X.mg "min" = none) (he : PE X e te) (hs : starEach [e] X.env = (false, eval e X.env) :: starEach [] X.env) :
    PE X (.Call (.Name "min" p) [e] [⟨some "default", .Constant .none n cp, kp⟩] pos) (tCB (rMnLN X.K) (tCons te tNil)) := by
  refine ⟨fun pins s σ H Q I h => ?_⟩
  refine wpAny_Call_Name_kw (ld_blt I hg hm PyProof.Rows.boot_min ?_ (by decide) (by decide))
  refine PyProof.Rows.callWith_kw (thn ((pa_cons he pa_nil hs).run pos pins s σ H _ I h) fun us s1 ⟨vs, H1, I1, r1, q1⟩ => ?_) (by rw [hs]; rfl) (by rw [hs]; rfl)
  refine thn ((pk_cons (nm := some "default") (kpos := kp) (pe_non (j := n) (pos := cp)) pk_nil).run pos pins s1 σ H1 (fun ws H2 => ws = [.non] ∧ H2 = H1) I1 ⟨rfl, rfl⟩) fun ks s2 ⟨ws, H2, I2, r2, ew, eH⟩ => ?_
  subst ew eH
  obtain ⟨a, xs, ds, rfl, hq, hd, hok, q0, q⟩ := q1
  obtain ⟨its, rv, hl, hz⟩ := I2.list hq
  rw [Vals.ref1 r1]
  cases r2 with
  | cons ra rb =>
  cases rb
  obtain rfl := ra
  obtain ⟨as, rd⟩ := Dp.readsAll I2 ds xs its hd rv
  obtain ⟨al, dp⟩ := mmOk_al hok
  refine PySem.W.min_list_dflt (I2.ok.hd hc) hl.isList (by simpa using rd) al (by have := depthAll_le dp; omega) (fun e h' tk k => ⟨.non, H2, I2.kept k, rfl, q0 e⟩) fun d r i v h' tk e0 e1 e2 k => ?_
  obtain ⟨y, hy, ry⟩ := valOf rv e1
  exact ⟨y, H2, I2.kept k, ry, q d r i y e0 hy e2⟩
end
end L2

set_option Elab.async false
set_option linter.all false
set_option autoImplicit false
set_option maxRecDepth 100000
namespace En
open PySem PySem.Spec PyProof.Rows L2

/-! ## dicts whose keys are tuples -/
/-- what stands in a dict, row by row -/
def RowsU (w : World) (d : Addr) (u : HO) (rows : List (V × V)) : Prop := (∃ hk : List (Key × V), u = .dK hk ∧ rows = hk.map fun p => (kV p.1, p.2)) ∨ ∃ xs : List NE, u = dctO w d xs ∧ rows = xs.map fun x => (.ref x.2.1, x.2.2)
/-- xs.count(d) -/
def rCountD (K : Frag) : V → V → Hp → VK → Prop := fun x y H Q => ∃ (a : Addr) (d : PyData) (ds : List PyData), x = V.ref a ∧ Dp K H (V.ref a) (.list ds) ∧ Dp K H y d ∧ shp (.list ds) = true ∧ shp d = true ∧ Q (.int ((ds.countP fun z => PyData.eqv z d : Nat) : Int)) H
/-- sorted(d): its keys -/
def rSrtK (K : Frag) (w : World) : List V → Hp → VK → Prop := fun vs H Q => ∃ (a : Addr) (u : HO) (rows : List (V × V)) (ds : List PyData), vs = [V.ref a] ∧ Rd H a u ∧ RowsU w a u rows ∧ DpAll K H (rows.map (·.1)) ds ∧ En.srtOk ds = true ∧
  ∀ p, H p = none → Q (.ref p) (upd H p (.lst (((ds.zip (rows.map (·.1))).mergeSort (PySem.W.dataLe false Prod.fst)).map Prod.snd)))
def NKey (K : Frag) (H : Hp) (y : V) (k : NestedKey) : Prop := ∃ (b : Addr) (d : D), y = .ref b ∧ Dp K H (.ref b) d ∧ nkOf d = some k ∧ nkT k = true
def NGet (K : Frag) (w : World) (H : Hp) (a : Addr) (xs : List NE) : Prop := (Rd H a (dctO w a xs) ∨ (xs = [] ∧ Rd H a (.dK []))) ∧ ∀ x ∈ xs, NKey K H (.ref x.2.1) x.1
def valN (xs : List NE) (k : NestedKey) : Option V := (xs.find? fun x => decide (x.1 = k)).map (·.2.2)
def putN (xs : List NE) (k : NestedKey) (b : Addr) (v : V) : List NE := if (valN xs k).isSome then xs.map (fun x => if x.1 = k then (x.1, x.2.1, v) else x) else xs ++ [(k, b, v)]
section
variable {X : Cx} {pins : List (Addr × Obj)} {σ : L2.St} {H : Hp} {s : Shared}
mutual
theorem dp_nested (I : Inv X pins σ H s) : ∀ (d : D) (v : V) (u : Value) (k : NestedKey), Dp X.K H v d → RelV v u → nkOf d = some k → NestedIs s.heap k u
  | .none, _, _, _, h, r, e => by
    cases h
    cases r
    cases e
    exact .none
  | .int i, _, _, _, h, r, e => by
    cases h
    obtain ⟨t, rfl⟩ := (show ∃ t, _ = Value.int i t from r)
    cases e
    exact .int i t
  | .str i, _, _, _, h, r, e => by
    cases h
    obtain ⟨t, rfl⟩ := (show ∃ t, _ = Value.str i t from r)
    cases e
    exact .text i t
  | .tuple ds, _, _, _, h, r, e => by
    cases h with
    | tup hq ha =>
      obtain rfl := r
      simp only [nkOf, Option.map_eq_some_iff] at e
      obtain ⟨ks, e, rfl⟩ := e
      obtain ⟨its, rv, ⟨o, ho, hc, n, hd⟩, _⟩ := I.tuple hq
      exact .tup ho hc hd (by simpa using dp_nesteds I ds _ its ks ha rv e)
  | .bool _, _, _, _, h, r, e => by cases e
  | .list _, _, _, _, h, r, e => by cases e
  | .dict _, _, _, _, h, r, e => by cases e
theorem dp_nesteds (I : Inv X pins σ H s) : ∀ (ds : List D) (vs : List V) (us : List Value) (ks : List NestedKey), DpAll X.K H vs ds → Vals vs us → nksOf ds = some ks → NestedAll s.heap ks us
  | [], _, _, _, h, r, e => by
    cases h
    cases r
    cases e
    exact .nil
  | d :: ds, _, _, _, h, r, e => by
    cases h with
    | cons h1 h2 =>
      cases r with
      | cons r1 r2 =>
        simp only [nksOf] at e
        split at e
        · rename_i k ks e1 e2
          cases e
          exact .cons (dp_nested I d _ _ _ h1 r1 e1) (dp_nesteds I ds _ _ _ h2 r2 e2)
        · cases e
end
theorem nkT_depth {k : NestedKey} (h : nkT k = true) : k.depth ≤ 8 := by
  cases k <;> simp [nkT] at h
  simp only [NestedKey.depth]
  omega
theorem nkey_is {k : NestedKey} {b : Addr} (I : Inv X pins σ H s) (h : NKey X.K H (.ref b) k) : (nestedKind X.prog X.w).is s.heap k b := by
  obtain ⟨b', d, e, h1, h2, h3⟩ := h
  cases e
  exact ⟨dp_nested I d _ _ k h1 rfl h2, nkT_depth h3⟩
theorem ent_eq (w : World) (P : Program) : entN w = entryOfKey (nestedKind P w) := rfl
theorem NR.all {P : Nat → Prop} {xs : List NE} {vs : List (NestedKey × Addr × Value)} (r : NR xs vs) {Q : NestedKey → Addr → Prop} (h : ∀ x ∈ xs, Q x.1 x.2.1) : ∀ x ∈ vs, Q x.1 x.2.1 := by
  induction r with
  | nil => intro x hx; cases hx
  | cons a b ih =>
    intro x hx
    rcases List.mem_cons.mp hx with e | hx
    · subst e
      rw [← a.1, ← a.2.1]
      exact h _ List.mem_cons_self
    · exact ih (fun y hy => h y (List.mem_cons_of_mem _ hy)) x hx
theorem NR.keys {xs : List NE} {vs : List (NestedKey × Addr × Value)} (r : NR xs vs) : vs.map (·.1) = xs.map (·.1) := by
  induction r with
  | nil => rfl
  | cons a b ih => rw [List.map_cons, List.map_cons, ih, a.1]
theorem NR.val {xs : List NE} {vs : List (NestedKey × Addr × Value)} (r : NR xs vs) (k : NestedKey) : RelO (valN xs k) ((atKey vs k).map (·.2)) := by
  induction r with
  | nil => exact True.intro
  | @cons p q ps qs a t ih =>
    by_cases e : p.1 = k
    · have e' : q.1 = k := a.1.symm.trans e
      have h1 : valN (p :: ps) k = some p.2.2 := by simp [valN, List.find?_cons, e]
      have h2 : atKey (q :: qs) k = some q.2 := by simp [atKey, List.find?_cons, e']
      rw [h1, h2]
      exact a.2.2
    · have e' : ¬ q.1 = k := fun z => e (a.1.trans z)
      have h1 : valN (p :: ps) k = valN ps k := by simp [valN, List.find?_cons, e]
      have h2 : atKey (q :: qs) k = atKey qs k := by simp [atKey, List.find?_cons, e']
      rw [h1, h2]
      exact ih
theorem NR.repl {xs : List NE} {vs : List (NestedKey × Addr × Value)} (r : NR xs vs) (k : NestedKey) {y : V} {u : Value} (ry : RelV y u) : NR (xs.map fun x => if x.1 = k then (x.1, x.2.1, y) else x) (vs.map (putAt k u)) := by
  induction r with
  | nil => exact .nil
  | @cons p q ps qs a t ih =>
    rw [List.map_cons, List.map_cons]
    refine .cons ?_ ih
    unfold putAt
    by_cases e : p.1 = k
    · rw [if_pos e, if_pos (a.1.symm.trans e)]; exact ⟨a.1, a.2.1, ry⟩
    · rw [if_neg e, if_neg (fun z => e (a.1.trans z))]; exact a
theorem NR.put {xs : List NE} {vs : List (NestedKey × Addr × Value)} (r : NR xs vs) (k : NestedKey) (b : Addr) {y : V} {u : Value} (ry : RelV y u) : NR (putN xs k b y) (storedH vs k b u) := by
  unfold putN storedH
  have e := (r.val k).isSome_eq
  rw [Option.isSome_map] at e
  rw [e]
  by_cases q : (atKey vs k).isSome = true
  · rw [if_pos q, if_pos q]; exact r.repl k ry
  · rw [if_neg q, if_neg q]; exact Paired.snoc r ⟨rfl, rfl, ry⟩
theorem putN_len (xs : List NE) (k : NestedKey) (b : Addr) (v : V) : (putN xs k b v).length ≤ xs.length + 1 := by
  unfold putN
  split
  · rw [List.length_map]; omega
  · simp
theorem putN_keys {xs : List NE} {k : NestedKey} {b : Addr} {v : V} {Q : NestedKey → Addr → Prop} (h : ∀ x ∈ xs, Q x.1 x.2.1) (hk : Q k b) : ∀ x ∈ putN xs k b v, Q x.1 x.2.1 := by
  unfold putN
  split
  · intro x hx
    obtain ⟨y, hy, rfl⟩ := List.mem_map.mp hx
    have := h y hy
    split
    · exact this
    · exact this
  · intro x hx
    rcases List.mem_append.mp hx with hx | hx
    · exact h x hx
    · rw [List.mem_singleton] at hx
      subst hx
      exact hk
theorem dict0_of {a : Addr} (ok : HOk X.prog X.w H s.heap) (e : Rd H a (.dK [])) : (a == sysModules) = false ∧ s.heap.DictOfH (nestedKind X.prog X.w) a [] := by
  obtain ⟨_, hd, vs, r, o, es, ep, h1, h2, h3, _, h5, _⟩ := dk_rd ok e
  have : vs = [] := by cases r; rfl
  subst this
  have e0 : es.toList = [] := by cases hes : es.toList with
    | nil => rfl
    | cons x l => rw [hes] at h5; cases h5
  exact ⟨hd, o, es, ep, h1, h2, h3, by simpa using e0, fun x hx => (nomatch hx), List.nodup_nil⟩
theorem ng_of {a : Addr} {xs : List NE} (I : Inv X pins σ H s) (g : NGet X.K X.w H a xs) : xs.length ≤ sizeLine ∧ (a == sysModules) = false ∧ ∃ vs, NR xs vs ∧ s.heap.DictOfH (nestedKind X.prog X.w) a vs := by
  obtain ⟨g1, g2⟩ := g
  rcases g1 with g1 | ⟨rfl, g1⟩
  · obtain ⟨⟨h1, h2, h3, vs, r, o, es, ep, q1, q2, q3, q4⟩, _⟩ := (show ObjOk X.prog X.w H s.heap a (dctO X.w a xs) from g1.ok I.hok)
    refine ⟨h1, h2, vs, r, o, es, ep, q1, q2, q3, by rw [q4, ent_eq X.w X.prog], ?_, by rw [r.keys]; exact h3⟩
    exact NR.all (P := fun _ => True) r (Q := fun k b => (nestedKind X.prog X.w).is s.heap k b) fun x hx => nkey_is I (g2 x hx)
  · obtain ⟨h1, h2⟩ := dict0_of I.hok g1
    exact ⟨by simp [sizeLine_eq], h1, [], .nil, h2⟩
theorem nroom {A : Around} (hu : A.units + 65 < cLine) : (nestedKind X.prog X.w).room A.in1 := by
  show A.in1.units + 8 < cLine
  rw [Around.in1_units]
  omega
/-- what the dict at a holds at the key y -/
def DGN (K : Frag) (w : World) (H : Hp) (a : Addr) (y : V) (r : Option V) : Prop := DGet H a y r ∨ ∃ xs k, NGet K w H a xs ∧ NKey K H y k ∧ r = valN xs k
theorem dgn_ty {a : Addr} {y : V} {o : Option V} (I : Inv X pins σ H s) (g : DGN X.K X.w H a y o) : s.TypeIs (.ref a) "dict" := by
  rcases g with g | ⟨xs, k, g, _, _⟩
  · exact dict_typeIs I g
  · obtain ⟨_, _, vs, _, dd⟩ := ng_of I g
    exact dd.typeIs
variable {a : Addr} {y v d : V} {u r : Value} {o : Option V} {A : Around} {E : Value → Shared → Prop}
theorem n_getItem {Q : Value → Shared → Prop} (hu : A.units + 65 < cLine) (I : Inv X pins σ H s) (g : DGN X.K X.w H a y (some v)) (ry : RelV y u) (h : ∀ w' s', Inv X pins σ H s' → RelV v w' → Q w' s') :
    wpAny (model X.prog X.w) A (getItem (.ref a) u) Q E s := by
  rcases g with g | ⟨xs, k, g, hk, l⟩
  · exact d_getItem (by omega) I g ry h
  · obtain ⟨_, _, vs, rel, dd⟩ := ng_of I g
    have hk' := hk
    obtain ⟨b, _, rfl, _⟩ := hk
    cases (show u = Value.ref b from ry)
    obtain ⟨w', hw, rw'⟩ := RelO.some_of (v := v) (o := (atKey vs k).map (·.2)) (by rw [l]; exact rel.val k)
    obtain ⟨p, hp, hp2⟩ := Option.map_eq_some_iff.mp hw
    refine wpAny_getItem_heap (nroom hu) (nkey_is I hk') dd hp ?_
    rw [hp2]
    exact h w' _ (I.tok _) rw'
theorem n_in {Q : Value → Shared → Prop} (hu : A.units + 65 < cLine) (I : Inv X pins σ H s) (g : DGN X.K X.w H a y o) (ry : RelV y u) (h : ∀ s', Inv X pins σ H s' → Q (.bool o.isSome) s') :
    wpAny (model X.prog X.w) A (compareOp .In u (.ref a)) Q E s := by
  rcases g with g | ⟨xs, k, g, hk, l⟩
  · exact d_in (by omega) I g ry h
  · obtain ⟨_, hd, vs, rel, dd⟩ := ng_of I g
    have hk' := hk
    obtain ⟨b, _, rfl, _⟩ := hk
    cases (show u = Value.ref b from ry)
    refine wpAny_in_heap (nroom hu) (nkey_is I hk') hd dd ?_
    have q := (rel.val k).isSome_eq
    rw [Option.isSome_map] at q
    rw [← q, ← l]
    exact h _ (I.tok _)
theorem n_notIn {Q : Value → Shared → Prop} (hu : A.units + 65 < cLine) (I : Inv X pins σ H s) (g : DGN X.K X.w H a y o) (ry : RelV y u) (h : ∀ s', Inv X pins σ H s' → Q (.bool (!o.isSome)) s') :
    wpAny (model X.prog X.w) A (compareOp .NotIn u (.ref a)) Q E s := by
  rcases g with g | ⟨xs, k, g, hk, l⟩
  · exact d_notIn (by omega) I g ry h
  · obtain ⟨_, hd, vs, rel, dd⟩ := ng_of I g
    have hk' := hk
    obtain ⟨b, _, rfl, _⟩ := hk
    cases (show u = Value.ref b from ry)
    refine wpAny_notIn_heap (nroom hu) (nkey_is I hk') hd dd ?_
    have q := (rel.val k).isSome_eq
    rw [Option.isSome_map] at q
    rw [← q, ← l]
    exact h _ (I.tok _)
theorem n_get1 {Q : Value → Shared → Prop} (hu : A.units + 65 < cLine) (I : Inv X pins σ H s) (g : DGN X.K X.w H a y o) (ry : RelV y u) (h : ∀ w' s', Inv X pins σ H s' → RelV (o.getD .non) w' → Q w' s') :
    wpAny (model X.prog X.w) A (call (.builtin "dict.get") [.ref a, u]) Q E s := by
  rcases g with g | ⟨xs, k, g, hk, l⟩
  · exact d_get1 (by omega) I g ry h
  · obtain ⟨_, hd, vs, rel, dd⟩ := ng_of I g
    have hk' := hk
    obtain ⟨b, _, rfl, _⟩ := hk
    cases (show u = Value.ref b from ry)
    refine call_meetsIn PySem.F.slot_dict_get dd.typeIs PySem.F.entry_dict_get (PySem.F.args_dict_get_2 _ _) (meetsH_dict_get (nestedKind X.prog X.w) a b hd) ⟨nroom hu, k, vs, nkey_is I hk', dd, h _ _ (I.tok _) ?_⟩
    rw [l]
    exact (rel.val k).getD rfl
theorem n_get2 {Q : Value → Shared → Prop} (hu : A.units + 65 < cLine) (I : Inv X pins σ H s) (g : DGN X.K X.w H a y o) (ry : RelV y u) (rd : RelV d r) (h : ∀ w' s', Inv X pins σ H s' → RelV (o.getD d) w' → Q w' s') :
    wpAny (model X.prog X.w) A (call (.builtin "dict.get") [.ref a, u, r]) Q E s := by
  rcases g with g | ⟨xs, k, g, hk, l⟩
  · exact d_get2 (by omega) I g ry rd h
  · obtain ⟨_, hd, vs, rel, dd⟩ := ng_of I g
    have hk' := hk
    obtain ⟨b, _, rfl, _⟩ := hk
    cases (show u = Value.ref b from ry)
    refine call_meetsIn PySem.F.slot_dict_get dd.typeIs PySem.F.entry_dict_get (PySem.F.args_dict_get_3 _ _ _) (meetsH_dict_get_default (nestedKind X.prog X.w) a b hd r) ⟨nroom hu, k, vs, nkey_is I hk', dd, h _ _ (I.tok _) ?_⟩
    rw [l]
    exact (rel.val k).getD rd
theorem dctO_ok {h' : Heap} {H' : Hp} {xs : List NE} {vs : List (NestedKey × Addr × Value)} (z : xs.length ≤ sizeLine) (hd : (a == sysModules) = false) (r : NR xs vs) (dd : h'.DictOfH (nestedKind X.prog X.w) a vs) : ObjOk X.prog X.w H' h' a (dctO X.w a xs) := by
  obtain ⟨o, es, ep, h1, h2, h3, h4, h5, h6⟩ := dd
  refine ⟨⟨z, hd, by rw [← r.keys]; exact h6, vs, r, o, es, ep, h1, h2, h3, by rw [h4, ent_eq X.w X.prog]⟩, ⟨o, h1⟩, fun g1 g2 ⟨z, hd, n, vs, r, o, es, ep, h1, h2⟩ k => ⟨z, hd, n, vs, r, o, es, ep, k o h1, h2⟩⟩
/-- the heap behind a[y] = v -/
def DPN (K : Frag) (w : World) (H : Hp) (a : Addr) (y v : V) (H' : Hp) : Prop := DPut H a y v H' ∨
  ∃ xs k b, NGet K w H a xs ∧ y = .ref b ∧ NKey K H y k ∧ Mut (H a) ∧ xs.length < sizeLine ∧ H' = upd H a (dctO w a (putN xs k b v))
theorem dctO_new {h' : Heap} {t' : Nat} {xs : List NE} {k : NestedKey} {b : Addr} {vs : List (NestedKey × Addr × Value)} (I : Inv X pins σ H s) (mu : Mut (H a)) (z : (putN xs k b v).length ≤ sizeLine) (hd : (a == sysModules) = false) (rel : NR xs vs) (rv : RelV v r)
    (dd : h'.DictOfH (nestedKind X.prog X.w) a (storedH vs k b r)) (hs : Heap.SameBut a s.heap h') : Inv X pins σ (upd H a (dctO X.w a (putN xs k b v))) { s with heap := h', toks := t' } := by
  have he : ∃ q, h'.get? a = some q := let ⟨q, _, _, hq, _⟩ := dd; ⟨q, hq⟩
  exact d_write I mu hs he (dctO_ok z hd (rel.put k b rv) dd)
theorem n_setItem {H' : Hp} {Q : Unit → Shared → Prop} (hu : A.units + 65 < cLine) (I : Inv X pins σ H s) (g : DPN X.K X.w H a y v H') (ry : RelV y u) (rv : RelV v r) (h : ∀ s', Inv X pins σ H' s' → Q () s') :
    wpAny (model X.prog X.w) A (setItem (.ref a) u r) Q E s := by
  rcases g with g | ⟨xs, k, b, g, ey, hk, mu, l, eH⟩
  · exact d_setItem (by omega) I g ry rv h
  · subst ey eH
    cases (show u = Value.ref b from ry)
    obtain ⟨_, hd, vs, rel, dd⟩ := ng_of I g
    have hz : vs.length ≤ sizeLine := by rw [← Paired.length rel]; omega
    have hl : (putN xs k b v).length ≤ sizeLine := by have := putN_len xs k b v; omega
    exact wpAny_setItem_heap (hsz := hz) (nroom hu) (nkey_is I hk) dd fun h' dd' hs => h _ (dctO_new I mu hl hd rel rv dd' hs)
end
/-! ### readings -/
def tDGetN (K : Frag) (w : World) (td ty : TE) : TE := fun σ H Q => td σ H fun x H1 => ty σ H1 fun y H2 => ∃ a v, x = .ref a ∧ DGN K w H2 a y (some v) ∧ Q v H2
section
variable {X : Cx} {o i e value : Expr} {pos pos' tpos : Pos} {td ty tv : TE}
theorem pe_dgetN (hu : X.A.units + 65 < cLine) (ho : PE X o td) (hi : PE X i ty) (hs : NoSl i) : PE X (.Subscript o i pos) (tDGetN X.K X.w td ty) := by
  refine ⟨fun pins s σ H Q I h => ?_⟩
  refine subD_of PySem.F.slot_dict_getitem.lookup hs (thn (ho.run pins s σ H _ I h) fun u s1 ⟨x, H1, I1, rx, q1⟩ => thn (hi.run pins s1 σ H1 _ I1 q1) fun iv s2 ⟨y, H2, I2, ry, a, v, ex, g, q2⟩ => ?_)
  subst ex
  obtain rfl : u = Value.ref a := rx
  exact ⟨dgn_ty I2 g, n_getItem hu I2 g ry fun w' s3 I3 rw' => ⟨v, H2, I3, rw', q2⟩⟩
/-- y in d, y not in d -/
def tDInN (K : Frag) (w : World) (ty td : TE) : TE := fun σ H Q => ty σ H fun y H1 => td σ H1 fun x H2 => ∃ a o, x = .ref a ∧ DGN K w H2 a y o ∧ Q (.bl o.isSome) H2
def tDNotInN (K : Frag) (w : World) (ty td : TE) : TE := fun σ H Q => ty σ H fun y H1 => td σ H1 fun x H2 => ∃ a o, x = .ref a ∧ DGN K w H2 a y o ∧ Q (.bl (!o.isSome)) H2
theorem pc_dinN (hu : X.A.units + 65 < cLine) (hi : PE X i ty) (ho : PE X o td) : PC X .In i o (tDInN X.K X.w ty td) := by
  refine ⟨fun pins s σ H Q I h => ?_⟩
  refine thn (hi.run pins s σ H _ I h) fun iv s1 ⟨y, H1, I1, ry, q1⟩ => thn (ho.run pins s1 σ H1 _ I1 q1) fun u s2 ⟨x, H2, I2, rx, a, ov, ex, g, q2⟩ => ?_
  subst ex
  obtain rfl : u = Value.ref a := rx
  exact n_in hu I2 g ry fun s3 I3 => ⟨.bl ov.isSome, H2, I3, rfl, q2⟩
theorem pc_dnotinN (hu : X.A.units + 65 < cLine) (hi : PE X i ty) (ho : PE X o td) : PC X .NotIn i o (tDNotInN X.K X.w ty td) := by
  refine ⟨fun pins s σ H Q I h => ?_⟩
  refine thn (hi.run pins s σ H _ I h) fun iv s1 ⟨y, H1, I1, ry, q1⟩ => thn (ho.run pins s1 σ H1 _ I1 q1) fun u s2 ⟨x, H2, I2, rx, a, ov, ex, g, q2⟩ => ?_
  subst ex
  obtain rfl : u = Value.ref a := rx
  exact n_notIn hu I2 g ry fun s3 I3 => ⟨.bl (!ov.isSome), H2, I3, rfl, q2⟩
/-- d.get(y), d.get(y, z) -/
def rDGet1 (K : Frag) (w : World) : V → List V → Hp → VK → Prop := fun x vs H Q => ∃ a y o, x = .ref a ∧ vs = [y] ∧ DGN K w H a y o ∧ Q (o.getD .non) H
def rDGet2 (K : Frag) (w : World) : V → List V → Hp → VK → Prop := fun x vs H Q => ∃ a y z o, x = .ref a ∧ vs = [y, z] ∧ DGN K w H a y o ∧ Q (o.getD z) H
theorem mt_dget1 (hu : X.A.units + 65 < cLine) : MtR X "dict.get" (rDGet1 X.K X.w) := by
  intro pins s σ H x xs v us Q I rx rs h
  obtain ⟨a, y, o, rfl, rfl, g, q⟩ := h
  obtain rfl : v = Value.ref a := rx
  cases rs with
  | cons r1 r2 =>
    cases r2
    exact n_get1 hu I g r1 fun w' s' I' rw' => ⟨_, H, I', rw', q⟩
theorem mt_dget2 (hu : X.A.units + 65 < cLine) : MtR X "dict.get" (rDGet2 X.K X.w) := by
  intro pins s σ H x xs v us Q I rx rs h
  obtain ⟨a, y, z, o, rfl, rfl, g, q⟩ := h
  obtain rfl : v = Value.ref a := rx
  cases rs with
  | cons r1 r2 =>
    cases r2 with
    | cons r2 r3 =>
      cases r3
      exact n_get2 hu I g r1 r2 fun w' s' I' rw' => ⟨_, H, I', rw', q⟩
/-- d[y] = v -/
def sDPutN (K : Frag) (w : World) (td ty tv : TE) : TS := fun D σ H => tv σ H fun v H1 => td σ H1 fun x H2 => ty σ H2 fun y H3 => ∃ a H4, x = .ref a ∧ DPN K w H3 a y v H4 ∧ D.nx σ H4
theorem ps_dputN (hu : X.A.units + 65 < cLine) (ho : PE X o td) (hi : PE X i ty) (hv : PE X value tv) (hs : swapsWith value (some (.Subscript o i pos')) pos.line X.env = pure false) :
    PS X (.Assign [.Subscript o i pos'] value pos) (sDPutN X.K X.w td ty tv) := by
  refine ⟨fun pins s σ H D I h => ?_⟩
  refine wpAny_Assign_Subscript (thn (hv.run pins s σ H _ I h) fun r s1 ⟨v, H1, I1, rv, q1⟩ => thn (ho.run pins s1 σ H1 _ I1 q1) fun u s2 ⟨x, H2, I2, rx, q2⟩ => thn (hi.run pins s2 σ H2 _ I2 q2) fun iv s3 ⟨y, H3, I3, ry, a, H4, ex, g, q3⟩ => ?_) hs
  subst ex
  obtain rfl : u = Value.ref a := rx
  exact n_setItem hu I3 g ry rv fun s4 I4 => ⟨σ, H4, I4, q3⟩
end
end En

set_option Elab.async false
set_option linter.all false
set_option autoImplicit false
set_option maxRecDepth 100000
namespace En
open PySem PySem.Spec PyProof.Rows L2 RZ
variable {G : Gx} {W : WX} {H H' H'' : Hp} {z z' z'' : Addr → Prop} {τ τ' : Ty} {d : D} {v : V} {ds : List D} {vs : List V} {m m' m1 m2 m0 : Ow} {τs : List Ty}

/-! ## operations by values -/
def r2l (r : R2) : List V → Hp → VK → Prop := fun vs H Q => match vs with
  | [x, y] => r x y H Q
  | _ => False
def r1l (r : V → Hp → VK → Prop) : List V → Hp → VK → Prop := fun vs H Q => match vs with
  | [x] => r x H Q
  | _ => False
def OpAt (G : Gx) (r : List V → Hp → VK → Prop) (g : List D → Option D) : Prop :=
  ∀ (H : Hp) (z : Addr → Prop) (τs : List Ty) (ds : List D) (vs : List V) (m : Ow) (d : D) (Q : VK), RA G.F H z τs ds vs m → g ds = some d → ∃ v, atomV d = some v ∧ (Q v H → r vs H Q)
theorem OpAt.ops {r : List V → Hp → VK → Prop} {g : List D → Option D} (h : OpAt G r g) : OpS G.F r τs τ g := by
  intro H z mv ds vs d Q ra ok e k
  obtain ⟨v, hv, q⟩ := h H z τs ds vs mv d Q ra e
  exact q (k v H z (fun _ => 0) (Rp.atom hv) ((Stp.refl ok).drop fun _ => Nat.zero_le _) Ext.refl)
theorem RA.one1 {d1 : D} (h : RA G.F H z τs [d1] vs m) : ∃ τ1 v1 m1, τs = [τ1] ∧ vs = [v1] ∧ Rp G.F H z τ1 d1 v1 m1 ∧ ∀ b, m b = m1 b := by
  cases h with
  | cons a b c =>
    cases b with
    | nil e => exact ⟨_, _, _, rfl, rfl, a, fun x => by have := c x; have := e x; omega⟩
theorem RA.two {d1 d2 : D} (h : RA G.F H z τs [d1, d2] vs m) : ∃ τ1 τ2 v1 v2 m1 m2, τs = [τ1, τ2] ∧ vs = [v1, v2] ∧ Rp G.F H z τ1 d1 v1 m1 ∧ Rp G.F H z τ2 d2 v2 m2 ∧ ∀ b, m b = m1 b + m2 b := by
  cases h with
  | cons a b c =>
    obtain ⟨τ2, v2, m2, rfl, rfl, h2, e⟩ := RA.one1 b
    exact ⟨_, _, _, _, _, _, rfl, rfl, a, h2, fun x => by have := c x; have := e x; omega⟩
theorem RA.three {d1 d2 d3 : D} (h : RA G.F H z τs [d1, d2, d3] vs m) : ∃ τ1 τ2 τ3 v1 v2 v3 m1 m2 m3, τs = [τ1, τ2, τ3] ∧ vs = [v1, v2, v3] ∧ Rp G.F H z τ1 d1 v1 m1 ∧ Rp G.F H z τ2 d2 v2 m2 ∧ Rp G.F H z τ3 d3 v3 m3 ∧ ∀ b, m b = m1 b + m2 b + m3 b := by
  cases h with
  | cons a b c =>
    obtain ⟨τ2, τ3, v2, v3, m2, m3, rfl, rfl, h2, h3, e⟩ := RA.two b
    exact ⟨_, _, _, _, _, _, _, _, _, rfl, rfl, a, h2, h3, fun x => by have := c x; have := e x; omega⟩
theorem iDc_inv {c : Int → Int → Bool} {f : Int → Int → D} (h : iDc c f ds = some d) : ∃ a b, ds = [.int a, .int b] ∧ c a b = true ∧ d = f a b := by
  unfold iDc at h
  split at h
  · split at h
    · rename_i q; cases h; exact ⟨_, _, rfl, q, rfl⟩
    · cases h
  · cases h
theorem iD_inv {f : Int → Int → D} (h : iD f ds = some d) : ∃ a b, ds = [.int a, .int b] ∧ d = f a b := by
  unfold iD at h
  split at h
  · cases h; exact ⟨_, _, rfl, rfl⟩
  · cases h
theorem at_iDc {r : R2} {c : Int → Int → Bool} {f : Int → Int → D} (h : ∀ a b H Q, c a b = true → ∃ v, atomV (f a b) = some v ∧ (Q v H → r (.int a) (.int b) H Q)) : OpAt G (r2l r) (iDc c f) := by
  intro H z τs ds vs m d Q ra e
  obtain ⟨a, b, rfl, hc, rfl⟩ := iDc_inv e
  obtain ⟨_, _, v1, v2, _, _, _, rfl, h1, h2, _⟩ := ra.two
  obtain rfl := Rp.int_inv h1
  obtain rfl := Rp.int_inv h2
  exact h a b H Q hc
theorem at_iD {r : R2} {f : Int → Int → D} (h : ∀ a b H Q, ∃ v, atomV (f a b) = some v ∧ (Q v H → r (.int a) (.int b) H Q)) : OpAt G (r2l r) (iD f) := by
  intro H z τs ds vs m d Q ra e
  obtain ⟨a, b, rfl, rfl⟩ := iD_inv e
  obtain ⟨_, _, v1, v2, _, _, _, rfl, h1, h2, _⟩ := ra.two
  obtain rfl := Rp.int_inv h1
  obtain rfl := Rp.int_inv h2
  exact h a b H Q
theorem IntMulOk.of20 {a b : Int} (ha : a.natAbs.log2 < farN) (hb : b.natAbs.log2 < farN) : IntMulOk a b := by
  have bb : ∀ x : Int, x.natAbs.log2 < farN → Builtin.Int.intBits x ≤ 2 ^ 20 := fun x h => by
    unfold farN at h
    unfold Builtin.Int.intBits
    split <;> omega
  exact IntMulOk.of_bits (bb a ha) (bb b hb)
def MulC (i j : Int) : Prop := mulOk i j = true
theorem op_mulE {X : Cx} : OpR X (binaryOp .Mult) (rI MulC fun i j => .int (i * j)) := opI fun i j _ _ _ _ _ hc q => mul_int q (by
  have hc : mulOk i j = true := hc
  unfold mulOk smallI at hc
  simp only [Bool.or_eq_true, Bool.and_eq_true, decide_eq_true_eq] at hc
  have e : (2 : Int) ^ 64 = 18446744073709551616 := by decide
  rcases hc with (⟨h1, h2⟩ | ⟨h1, h2⟩) | ⟨h1, h2⟩
  · exact CMul.ok (.inl (by rw [e]; exact ⟨h1, h2⟩))
  · exact CMul.ok (.inr (by rw [e]; exact ⟨h1, h2⟩))
  · exact IntMulOk.of20 h1 h2)
def clsOf : Kd → String
  | .int => "int"
  | .bool => "bool"
  | .tup => "tuple"
  | .list => "list"
  | .str => "str"
  | .dict => "dict"
def rLenE (K : Frag) : List V → Hp → VK → Prop := fun xs H Q => (∃ x n, xs = [x] ∧ LenV K x H n ∧ Q (.int n) H) ∨ ∃ a kvs, xs = [.ref a] ∧ Rd H a (.dK kvs) ∧ Q (.int (kvs.length : Nat)) H
theorem call_lenE {X : Cx} : CallR X (.builtin "len") (rLenE X.K) := by
  intro pins s σ H xs us Q I r h
  rcases h with h | ⟨a, kvs, rfl, e, q⟩
  · exact call_len pins s σ H xs us Q I r h
  · rw [Vals.ref1 r]
    exact d_len I e fun t s' I' => ⟨.int _, H, I', ⟨_, rfl⟩, q⟩
/-- x[lo:hi] by its values -/
def slV (r : V → Option Int → Option Int → Hp → VK → Prop) (a b : Bool) : List V → Hp → VK → Prop := fun vs H Q => match a, b, vs with
  | false, false, [x] => r x none none H Q
  | true, false, [x, i] => ∃ k, i = .int k ∧ r x (some k) none H Q
  | false, true, [x, j] => ∃ k, j = .int k ∧ r x none (some k) H Q
  | true, true, [x, i, j] => ∃ k l, i = .int k ∧ j = .int l ∧ r x (some k) (some l) H Q
  | _, _, _ => False
/-- is None; is a truth, of a truth -/
def rIsNB : V → V → Hp → VK → Prop := fun x y H Q => (y = .non ∧ Q (.bl (decide (x = .non))) H) ∨ ∃ a b, x = .bl a ∧ y = .bl b ∧ Q (.bl (decide (a = b))) H
def rNotNB : V → V → Hp → VK → Prop := fun x y H Q => (y = .non ∧ Q (.bl (!decide (x = .non))) H) ∨ ∃ a b, x = .bl a ∧ y = .bl b ∧ Q (.bl (!decide (a = b))) H
theorem op_isNB {X : Cx} : OpR X (compareOp .Is) rIsNB := by
  intro pins s σ H x y v u Q I rx ry h
  rcases h with h | h
  · exact op_isN pins s σ H x y v u Q I rx ry h
  · exact op_is_bl pins s σ H x y v u Q I rx ry h
theorem op_notNB {X : Cx} : OpR X (compareOp .IsNot) rNotNB := by
  intro pins s σ H x y v u Q I rx ry h
  rcases h with h | h
  · exact op_notN pins s σ H x y v u Q I rx ry h
  · exact op_isnot_bl pins s σ H x y v u Q I rx ry h
def rOf (K : Frag) (w : World) : Op → List V → Hp → VK → Prop
  | .add => r2l (rI0 fun i j => .int (i + j))
  | .sub => r2l (rI0 fun i j => .int (i - j))
  | .mul => r2l (rI MulC fun i j => .int (i * j))
  | .fdiv => r2l (rI CDivW fun i j => .int (i / j))
  | .mod => r2l (rI (fun _ j => 0 < j) fun i j => .int (i % j))
  | .pow => r2l (rI CPow fun i j => .int (i ^ j.toNat))
  | .neg => r1l (rU fun i => .int (-i))
  | .eq => r2l (rEqD K)
  | .ltD => r2l (rLtD K)
  | .ne => r2l (rNeD K)
  | .lt => r2l (rI0 fun i j => .bl (decide (i < j)))
  | .le => r2l (rI0 fun i j => .bl (decide (i ≤ j)))
  | .gt => r2l (rI0 fun i j => .bl (decide (j < i)))
  | .ge => r2l (rI0 fun i j => .bl (decide (j ≤ i)))
  | .isN => r2l rIsNB
  | .notN => r2l rNotNB
  | .len => rLenE K
  | .ixL => r2l (rIxL K)
  | .ixT => r2l (rIxT K)
  | .ixD => r2l fun x y H Q => ∃ a v, x = .ref a ∧ DGN K w H a y (some v) ∧ Q v H
  | .inn neg => r2l fun x y H Q => if neg then rNotInD K x y H Q ∨ rNotInU K x y H Q else rInD K x y H Q ∨ rInU K x y H Q
  | .inD neg => r2l fun y x H Q => ∃ a o, x = .ref a ∧ DGN K w H a y o ∧ Q (.bl (if neg then !o.isSome else o.isSome)) H
  | .slL a b => slV (rSlL K) a b
  | .slT a b => slV (rSlA K) a b
  | .listL => fun xs H Q => ∃ p ys, xs = [.ref p] ∧ (SqL K H p ys ∨ SqT K H p ys) ∧ ∀ l, H l = none → Q (.ref l) (upd H l (.lst ys))
  | .listT => fun xs H Q => ∃ p ys, xs = [.ref p] ∧ (SqL K H p ys ∨ SqT K H p ys) ∧ ∀ l, H l = none → Q (.ref l) (upd H l (.lst ys))
  | .revL => r1l fun x H Q => ∃ p ys, x = .ref p ∧ SqL K H p ys ∧ ∀ l, H l = none → Q (.ref l) (upd H l (.lst ys.reverse))
  | .listR => r1l fun x H Q => ∃ n, x = .int n ∧ RgOk 0 n ∧ ∀ q, H q = none → Q (.ref q) (upd H q (.lst (rgV 0 n)))
  | .tupL => r1l (kTup K)
  | .tupT => r1l (kTup K)
  | .tupR => r1l fun x H Q => ∃ n, x = .int n ∧ RgOk 0 n ∧ ∀ q, H q = none → Q (.ref q) (upd H q (.tup (rgV 0 n)))
  | .catL => r2l (rCatL K)
  | .catT => r2l (rCatA K)
  | .catS => r2l fun x y H Q => ∃ i j, x = .str i ∧ y = .str j ∧ i.length + j.length ≤ sizeLine ∧ Q (.str (i ++ j)) H
  | .srt => rSrt K
  | .srtK => rSrtK K w
  | .mx2D => rMx2D K
  | .mxLD => rMxLD K
  | .mnLD => rMnLD K
  | .mnLN => rMnLN K
  | .mn2D => rMn2D K
  | .max2 => fun xs H Q => ∃ i j, xs = [.int i, .int j] ∧ Q (.int (if j > i then j else i)) H
  | .min2 => fun xs H Q => ∃ i j, xs = [.int i, .int j] ∧ Q (.int (if j < i then j else i)) H
  | .maxL => rMax K
  | .minL => rMin K
  | .sumL => rSum K
  | .absI => fun xs H Q => ∃ i, xs = [.int i] ∧ Q (.int (if i < 0 then -i else i)) H
  | .intB => fun xs H Q => (∃ i, xs = [.int i] ∧ Q (.int i) H) ∨ ∃ k, xs = [.bl k] ∧ Q (.int (if k then 1 else 0)) H
  | .allL => rAll K
  | .isK k => r1l fun x H Q => rIsi K [x, .ty (clsOf k)] H Q
  | .idx => r2l fun x y H Q => rIndexD K x [y] H Q
  | .cnt => r2l fun x y H Q => rCountD K x y H Q
  | .dget1 => fun vs H Q => ∃ a y o, vs = [.ref a, y] ∧ DGN K w H a y o ∧ Q (o.getD .non) H
  | .dget2 => fun vs H Q => ∃ a y z o, vs = [.ref a, y, z] ∧ DGN K w H a y o ∧ Q (o.getD z) H

theorem at_eq : OpAt G (r2l (rEqD G.K)) (opv .eq) := by
  intro H z τs ds vs m d Q ra e
  simp only [opv] at e
  split at e
  · split at e
    · rename_i h
      rw [Bool.and_eq_true] at h
      obtain ⟨_, _, v1, v2, _, _, _, rfl, h1, h2, _⟩ := ra.two
      cases e
      exact ⟨_, rfl, fun q => ⟨_, _, Rp.dp h1 (shp_lay h.1), Rp.dp h2 (shp_lay h.2), h.1, h.2, q⟩⟩
    · cases e
  · cases e
theorem at_ne : OpAt G (r2l (rNeD G.K)) (opv .ne) := by
  intro H z τs ds vs m d Q ra e
  simp only [opv] at e
  split at e
  · split at e
    · rename_i h
      rw [Bool.and_eq_true] at h
      obtain ⟨_, _, v1, v2, _, _, _, rfl, h1, h2, _⟩ := ra.two
      cases e
      exact ⟨_, rfl, fun q => ⟨_, _, Rp.dp h1 (shp_lay h.1), Rp.dp h2 (shp_lay h.2), h.1, h.2, q⟩⟩
    · cases e
  · cases e
theorem Rp.is_non (h : Rp G.F H z τ d v m) : decide (v = .non) = isNon d := by
  cases h with
  | cons a _ _ _ => cases a <;> rfl
theorem at_isN : OpAt G (rOf G.K G.w .isN) (opv .isN) := by
  intro H z τs ds vs m d Q ra e
  simp only [opv] at e
  split at e
  · obtain ⟨_, _, v1, v2, _, _, _, rfl, h1, h2, _⟩ := ra.two
    cases e
    refine ⟨_, rfl, fun q => .inl ⟨Rp.non_inv h2, ?_⟩⟩
    rw [Rp.is_non h1]
    exact q
  · obtain ⟨_, _, v1, v2, _, _, _, rfl, h1, h2, _⟩ := ra.two
    cases e
    exact ⟨_, rfl, fun q => .inr ⟨_, _, Rp.bl_inv h1, Rp.bl_inv h2, q⟩⟩
  · cases e
theorem at_notN : OpAt G (rOf G.K G.w .notN) (opv .notN) := by
  intro H z τs ds vs m d Q ra e
  simp only [opv] at e
  split at e
  · obtain ⟨_, _, v1, v2, _, _, _, rfl, h1, h2, _⟩ := ra.two
    cases e
    refine ⟨_, rfl, fun q => .inl ⟨Rp.non_inv h2, ?_⟩⟩
    rw [Rp.is_non h1]
    exact q
  · obtain ⟨_, _, v1, v2, _, _, _, rfl, h1, h2, _⟩ := ra.two
    cases e
    exact ⟨_, rfl, fun q => .inr ⟨_, _, Rp.bl_inv h1, Rp.bl_inv h2, q⟩⟩
  · cases e
theorem at_neg : OpAt G (rOf G.K G.w .neg) (opv .neg) := by
  intro H z τs ds vs m d Q ra e
  simp only [opv] at e
  split at e
  · obtain ⟨_, v1, _, _, rfl, h1, _⟩ := ra.one1
    cases e
    obtain rfl := Rp.int_inv h1
    exact ⟨_, rfl, fun q => ⟨_, rfl, q⟩⟩
  · cases e
theorem keysT_dictT {ks ds : List D} {xs : List NE} (h : KeysT ks xs) (n : xs ≠ []) (l : ds.length = xs.length) : dictT (.dict (ks.zip ds)) = true := by
  cases xs with
  | nil => exact absurd rfl n
  | cons x xs =>
    cases ks with
    | nil => have := h.1; simp at this
    | cons k ks =>
      cases ds with
      | nil => cases l
      | cons d ds =>
        have h1 := h.1
        simp only [List.map_cons, List.cons.injEq] at h1
        have h2 := h.2.1 x List.mem_cons_self
        have h3 : keyOk k = false := by
          cases k <;> first | rfl | skip
          · rw [← Option.some.inj h1.1] at h2; cases h2
          · rw [← Option.some.inj h1.1] at h2; cases h2
        simp [dictT, h3]
theorem Rp.dict_inv {kvs : List (D × D)} (h : Rp G.F H z τ (.dict kvs) v m) (dt : dictT (.dict kvs) = false) : ∃ q t a ds m0 m1, ∃ hk : List (Key × V), τ = .N q t ∧ v = .ref a ∧ (hk.map (·.1)).Nodup ∧ ds.length = hk.length ∧ Box G.K H z a (.dK hk) False q m0 ∧ RL G.F H z t ds (hk.map (·.2)) m1 ∧ (∀ b, m b = m0 b + m1 b) ∧ kvs = (hk.map fun p => kd p.1).zip ds := by
  cases h with
  | cons a b c q =>
    cases c with
    | nil e =>
      cases a with
      | dk n l h => exact ⟨_, _, _, _, _, _, _, rfl, rfl, n, l, h, b, fun x => by have := q x; have := e x; omega, rfl⟩
      | dt n k l h => rw [keysT_dictT k n l] at dt; cases dt
theorem Box.rdd {K : Frag} {q : Md} {a : Addr} {o : HO} (h : Box K H z a o False q m) : Rd H a o := by
  cases q with
  | r => exact h.1.elim id fun q => q.elim
  | f => exact h.1.elim (fun q => q.1) fun q => q.elim
  | o => exact .inl h.1
theorem at_len : OpAt G (rOf G.K G.w .len) (opv .len) := by
  intro H z τs ds vs m d Q ra e
  simp only [opv] at e
  split at e
  · obtain ⟨_, v1, _, _, rfl, h1, _⟩ := ra.one1
    cases e
    obtain ⟨_, _, a, ws, _, _, _, rfl, hb, rl, _⟩ := Rp.list_inv h1
    exact ⟨_, rfl, fun q => .inl ⟨_, _, rfl, .inl ⟨ws, Box.sqL hb, rl.length⟩, q⟩⟩
  · obtain ⟨_, v1, _, _, rfl, h1, _⟩ := ra.one1
    cases e
    obtain ⟨a, ws, rfl, hb, rl⟩ := Rp.tup_inv h1
    exact ⟨_, rfl, fun q => .inl ⟨_, _, rfl, .inr ⟨ws, hb, rl.length⟩, q⟩⟩
  · split at e
    · cases e
    · rename_i hd
      obtain ⟨_, v1, _, _, rfl, h1, _⟩ := ra.one1
      cases e
      obtain ⟨_, _, a, ws, _, _, hk, _, rfl, _, hl, hb, _, _, rfl⟩ := Rp.dict_inv h1 (by simpa using hd)
      refine ⟨_, rfl, fun q => .inr ⟨a, hk, rfl, Box.rdd hb, ?_⟩⟩
      simpa [hl] using q
  · cases e
/-! ### of truths, ints, texts -/
theorem RL.ints {ns : List Int} : ∀ {ds : List D} {vs : List V} {m : Ow}, RL G.F H z τ ds vs m → intsOf ds = some ns → vs = ns.map V.int := by
  intro ds
  induction ds generalizing ns with
  | nil =>
    intro vs m h e
    cases e
    cases vs with
    | nil => rfl
    | cons _ _ => have := h.length; cases this
  | cons d ds ih =>
    intro vs m h e
    cases vs with
    | nil => have := h.length; cases this
    | cons v vs =>
      obtain ⟨_, _, r1, r2, _⟩ := h.uncons
      cases d with
      | int i =>
        simp only [intsOf, Option.map_eq_some_iff] at e
        obtain ⟨ns', e', rfl⟩ := e
        rw [Rp.int_inv r1, ih r2 e']
        rfl
      | _ => cases e
theorem RL.bools {bs : List Bool} : ∀ {ds : List D} {vs : List V} {m : Ow}, RL G.F H z τ ds vs m → boolsOf ds = some bs → vs = bs.map V.bl := by
  intro ds
  induction ds generalizing bs with
  | nil =>
    intro vs m h e
    cases e
    cases vs with
    | nil => rfl
    | cons _ _ => have := h.length; cases this
  | cons d ds ih =>
    intro vs m h e
    cases vs with
    | nil => have := h.length; cases this
    | cons v vs =>
      obtain ⟨_, _, r1, r2, _⟩ := h.uncons
      cases d with
      | bool i =>
        simp only [boolsOf, Option.map_eq_some_iff] at e
        obtain ⟨ns', e', rfl⟩ := e
        rw [Rp.bl_inv r1, ih r2 e']
        rfl
      | _ => cases e
theorem at_sumL : OpAt G (rOf G.K G.w .sumL) (opv .sumL) := by
  intro H z τs ds vs m d Q ra e
  simp only [opv] at e
  split at e
  · obtain ⟨_, v1, _, _, rfl, h1, _⟩ := ra.one1
    obtain ⟨_, _, a, ws, _, _, _, rfl, hb, rl, _⟩ := Rp.list_inv h1
    simp only [Option.map_eq_some_iff] at e
    obtain ⟨ns, e, rfl⟩ := e
    have := RL.ints rl e
    subst this
    exact ⟨_, rfl, fun q => ⟨a, ns, rfl, Box.sqL hb, q⟩⟩
  · cases e
theorem fold_max : ∀ (ns : List Int) (x : Int), (∀ y ∈ x :: ns, y ≤ ns.foldl (fun m y => if y > m then y else m) x) ∧ ns.foldl (fun m y => if y > m then y else m) x ∈ x :: ns
  | [], x => ⟨fun y hy => by rw [List.mem_singleton] at hy; subst hy; exact Int.le_refl _, by simp⟩
  | n :: ns, x => by
    rw [List.foldl_cons]
    by_cases hc : n > x
    · rw [if_pos hc]
      obtain ⟨h1, h2⟩ := fold_max ns n
      have h3 := h1 n (by simp)
      refine ⟨fun y hy => ?_, by rcases List.mem_cons.mp h2 with e | h <;> simp [*]⟩
      rcases List.mem_cons.mp hy with e | hy
      · omega
      · exact h1 y hy
    · rw [if_neg hc]
      obtain ⟨h1, h2⟩ := fold_max ns x
      have h3 := h1 x (by simp)
      refine ⟨fun y hy => ?_, by rcases List.mem_cons.mp h2 with e | h <;> simp [*]⟩
      rcases List.mem_cons.mp hy with e | hy
      · omega
      · rcases List.mem_cons.mp hy with e | hy
        · omega
        · exact h1 y (by simp [hy])
theorem fold_min : ∀ (ns : List Int) (x : Int), (∀ y ∈ x :: ns, ns.foldl (fun m y => if y < m then y else m) x ≤ y) ∧ ns.foldl (fun m y => if y < m then y else m) x ∈ x :: ns
  | [], x => ⟨fun y hy => by rw [List.mem_singleton] at hy; subst hy; exact Int.le_refl _, by simp⟩
  | n :: ns, x => by
    rw [List.foldl_cons]
    by_cases hc : n < x
    · rw [if_pos hc]
      obtain ⟨h1, h2⟩ := fold_min ns n
      have h3 := h1 n (by simp)
      refine ⟨fun y hy => ?_, by rcases List.mem_cons.mp h2 with e | h <;> simp [*]⟩
      rcases List.mem_cons.mp hy with e | hy
      · omega
      · exact h1 y hy
    · rw [if_neg hc]
      obtain ⟨h1, h2⟩ := fold_min ns x
      have h3 := h1 x (by simp)
      refine ⟨fun y hy => ?_, by rcases List.mem_cons.mp h2 with e | h <;> simp [*]⟩
      rcases List.mem_cons.mp hy with e | hy
      · omega
      · rcases List.mem_cons.mp hy with e | hy
        · omega
        · exact h1 y (by simp [hy])
theorem at_maxL : OpAt G (rOf G.K G.w .maxL) (opv .maxL) := by
  intro H z τs ds vs m d Q ra e
  simp only [opv] at e
  split at e
  · obtain ⟨_, v1, _, _, rfl, h1, _⟩ := ra.one1
    obtain ⟨_, _, a, ws, _, _, _, rfl, hb, rl, _⟩ := Rp.list_inv h1
    simp only [Option.map_eq_some_iff, Option.bind_eq_some_iff] at e
    obtain ⟨k, ⟨ns, e, e2⟩, rfl⟩ := e
    have := RL.ints rl e
    subst this
    cases ns with
    | nil => cases e2
    | cons n ns =>
      cases e2
      obtain ⟨f1, f2⟩ := fold_max ns n
      refine ⟨_, rfl, fun q => ⟨a, n :: ns, rfl, Box.sqL hb, by simp, fun m hm hy => ?_⟩⟩
      have : m = ns.foldl (fun m y => if y > m then y else m) n := Int.le_antisymm (f1 m hm) (hy _ f2)
      subst this
      exact q
  · cases e
theorem at_minL : OpAt G (rOf G.K G.w .minL) (opv .minL) := by
  intro H z τs ds vs m d Q ra e
  simp only [opv] at e
  split at e
  · obtain ⟨_, v1, _, _, rfl, h1, _⟩ := ra.one1
    obtain ⟨_, _, a, ws, _, _, _, rfl, hb, rl, _⟩ := Rp.list_inv h1
    simp only [Option.map_eq_some_iff, Option.bind_eq_some_iff] at e
    obtain ⟨k, ⟨ns, e, e2⟩, rfl⟩ := e
    have := RL.ints rl e
    subst this
    cases ns with
    | nil => cases e2
    | cons n ns =>
      cases e2
      obtain ⟨f1, f2⟩ := fold_min ns n
      refine ⟨_, rfl, fun q => ⟨a, n :: ns, rfl, Box.sqL hb, by simp, fun m hm hy => ?_⟩⟩
      have : m = ns.foldl (fun m y => if y < m then y else m) n := Int.le_antisymm (hy _ f2) (f1 m hm)
      subst this
      exact q
  · cases e
theorem at_allL : OpAt G (rOf G.K G.w .allL) (opv .allL) := by
  intro H z τs ds vs m d Q ra e
  simp only [opv] at e
  split at e
  · obtain ⟨_, v1, _, _, rfl, h1, _⟩ := ra.one1
    obtain ⟨_, _, a, ws, _, _, _, rfl, hb, rl, _⟩ := Rp.list_inv h1
    simp only [Option.map_eq_some_iff] at e
    obtain ⟨ns, e, rfl⟩ := e
    have := RL.bools rl e
    subst this
    exact ⟨_, rfl, fun q => ⟨a, ns, rfl, Box.sqL hb, q⟩⟩
  · cases e
theorem at_absI : OpAt G (rOf G.K G.w .absI) (opv .absI) := by
  intro H z τs ds vs m d Q ra e
  simp only [opv] at e
  split at e
  · obtain ⟨_, v1, _, _, rfl, h1, _⟩ := ra.one1
    cases e
    obtain rfl := Rp.int_inv h1
    exact ⟨_, rfl, fun q => ⟨_, rfl, q⟩⟩
  · cases e
theorem at_intB : OpAt G (rOf G.K G.w .intB) (opv .intB) := by
  intro H z τs ds vs m d Q ra e
  simp only [opv] at e
  split at e
  · obtain ⟨_, v1, _, _, rfl, h1, _⟩ := ra.one1
    cases e
    obtain rfl := Rp.bl_inv h1
    exact ⟨_, rfl, fun q => .inr ⟨_, rfl, q⟩⟩
  · obtain ⟨_, v1, _, _, rfl, h1, _⟩ := ra.one1
    cases e
    obtain rfl := Rp.int_inv h1
    exact ⟨_, rfl, fun q => .inl ⟨_, rfl, q⟩⟩
  · cases e
theorem at_max2 : OpAt G (rOf G.K G.w .max2) (opv .max2) := by
  intro H z τs ds vs m d Q ra e
  simp only [opv] at e
  split at e
  · obtain ⟨_, _, v1, v2, _, _, _, rfl, h1, h2, _⟩ := ra.two
    cases e
    obtain rfl := Rp.int_inv h1
    obtain rfl := Rp.int_inv h2
    exact ⟨_, rfl, fun q => ⟨_, _, rfl, q⟩⟩
  · cases e
theorem at_min2 : OpAt G (rOf G.K G.w .min2) (opv .min2) := by
  intro H z τs ds vs m d Q ra e
  simp only [opv] at e
  split at e
  · obtain ⟨_, _, v1, v2, _, _, _, rfl, h1, h2, _⟩ := ra.two
    cases e
    obtain rfl := Rp.int_inv h1
    obtain rfl := Rp.int_inv h2
    exact ⟨_, rfl, fun q => ⟨_, _, rfl, q⟩⟩
  · cases e
theorem at_inn {neg : Bool} : OpAt G (rOf G.K G.w (.inn neg)) (opv (.inn neg)) := by
  intro H z τs ds vs m d Q ra e
  simp only [opv] at e
  split at e
  · split at e
    · rename_i h
      rw [Bool.and_eq_true] at h
      obtain ⟨_, _, v1, v2, _, _, _, rfl, h1, h2, _⟩ := ra.two
      cases e
      refine ⟨_, rfl, fun q => ?_⟩
      cases neg with
      | true => exact .inl ⟨_, _, Rp.dp h1 (shp_lay h.1), Rp.dp h2 (shp_lay h.2), h.1, h.2, by simpa using q⟩
      | false => exact .inl ⟨_, _, Rp.dp h1 (shp_lay h.1), Rp.dp h2 (shp_lay h.2), h.1, h.2, by simpa using q⟩
    · cases e
  · split at e
    · rename_i h
      rw [Bool.and_eq_true] at h
      obtain ⟨_, _, v1, v2, _, _, _, rfl, h1, h2, _⟩ := ra.two
      cases e
      refine ⟨_, rfl, fun q => ?_⟩
      cases neg with
      | true => exact .inr ⟨_, _, Rp.dp h1 (shp_lay h.1), Rp.dp h2 (shp_lay h.2), h.1, h.2, by simpa using q⟩
      | false => exact .inr ⟨_, _, Rp.dp h1 (shp_lay h.1), Rp.dp h2 (shp_lay h.2), h.1, h.2, by simpa using q⟩
    · cases e
  · cases e
theorem Box.tyx {K : Frag} {q : Md} {a : Addr} (h : Box K H z a (.lst vs) (KL K a vs) q m) : TyX K H (.ref a) (.type "list") := by
  have : SqL K H a vs := Box.sqL h
  rcases this with (h | ⟨o, h⟩) | ⟨o, _, _, h, c, _⟩
  · exact .base (.lst h)
  · exact .base (.frz h)
  · exact .kList h c
theorem SqT.tyx {K : Frag} {a : Addr} (h : SqT K H a vs) : TyX K H (.ref a) (.type "tuple") := by
  rcases h with (h | ⟨o, h⟩) | ⟨o, _, _, h, c, _⟩
  · exact .base (.tup h)
  · exact .fTuple h
  · exact .kTuple h c
def tyName : D → String
  | .none => "NoneType"
  | .bool _ => "bool"
  | .int _ => "int"
  | .str _ => "str"
  | .list _ => "list"
  | .tuple _ => "tuple"
  | .dict _ => "dict"
theorem Rp.tyx (h : Rp G.F H z τ d v m) (nd : dictT d = false) : TyX G.K H v (.type (tyName d)) := by
  cases h with
  | cons a _ _ _ =>
    cases a with
    | non _ => exact .base .non
    | bl _ => exact .base (.bl _)
    | int _ => exact .base (.int _)
    | str _ => exact .base (.str _)
    | tup h _ => exact SqT.tyx h
    | lst h => exact Box.tyx h
    | dk _ _ h =>
      rcases Box.rdd h with h | ⟨o, h⟩
      · exact .base (.dK h)
      · exact .fDict h
    | dt n k l h => rw [keysT_dictT k n l] at nd; cases nd
theorem kd_ty (k : Kd) (d : D) : kitB (tyName d) (clsOf k) = some (isKd k d) := by
  cases k <;> cases d <;> simp only [tyName, clsOf, isKd] <;> decide +kernel
theorem at_isK {k : Kd} : OpAt G (rOf G.K G.w (.isK k)) (opv (.isK k)) := by
  intro H z τs ds vs m d Q ra e
  simp only [opv] at e
  split at e
  · split at e
    · cases e
    · rename_i hd
      obtain ⟨_, v1, _, _, rfl, h1, _⟩ := ra.one1
      cases e
      exact ⟨_, rfl, fun q => ⟨_, _, _, _, _, rfl, .ty _, Rp.tyx h1 (by simpa using hd), kit_ty (kd_ty k _), q⟩⟩
  · cases e
theorem at_idx : OpAt G (rOf G.K G.w .idx) (opv .idx) := by
  intro H z τs ds vs m d Q ra e
  simp only [opv] at e
  split at e
  · split at e
    · rename_i xs dd h
      rw [Bool.and_eq_true] at h
      obtain ⟨_, _, v1, v2, _, _, _, rfl, h1, h2, _⟩ := ra.two
      simp only [Option.map_eq_some_iff] at e
      obtain ⟨j, e, rfl⟩ := e
      refine ⟨_, rfl, fun q => ?_⟩
      obtain ⟨_, _, a, ws, _, _, _, rfl, hb, rl, _⟩ := Rp.list_inv h1
      rw [List.findIdx?_eq_some_iff_getElem] at e
      obtain ⟨hj, e1, e2⟩ := e
      exact ⟨a, v2, dd, xs, j, xs[j], rfl, rfl, Rp.dp h1 (shp_lay h.2), Rp.dp h2 (shp_lay h.1), h.2, h.1, List.getElem?_eq_getElem hj, e1, fun m' z' hm hz => by
        obtain ⟨hl, rfl⟩ := List.getElem?_eq_some_iff.mp hz
        simpa using e2 m' hm, q⟩
    · cases e
  · cases e
theorem at_cnt : OpAt G (rOf G.K G.w .cnt) (opv .cnt) := by
  intro H z τs ds vs m d Q ra e
  simp only [opv] at e
  split at e
  · split at e
    · rename_i xs dd h
      rw [Bool.and_eq_true] at h
      obtain ⟨_, _, v1, v2, _, _, _, rfl, h1, h2, _⟩ := ra.two
      cases e
      refine ⟨_, rfl, fun q => ?_⟩
      obtain ⟨_, _, a, ws, _, _, _, rfl, hb, rl, _⟩ := Rp.list_inv h1
      exact ⟨a, dd, xs, rfl, Rp.dp h1 (shp_lay h.2), Rp.dp h2 (shp_lay h.1), h.2, h.1, q⟩
    · cases e
  · cases e
end En

set_option Elab.async false
set_option linter.all false
set_option autoImplicit false
set_option maxRecDepth 100000
namespace En
open PySem PySem.Spec PyProof.Rows L2 RZ
variable {G : Gx} {W : WX} {H H' H'' : Hp} {z z' z'' : Addr → Prop} {τ τ' : Ty} {d : D} {v : V} {ds : List D} {vs : List V} {m m' m1 m2 m0 : Ow} {τs : List Ty}

/-! ## operations that give things -/
/-- the ends: nothing owned comes out, or one new thing -/
theorem ops_same (ok : Ok H z m) {Q : VK} (k : ∀ (v : V) (H' : Hp) (z' : Addr → Prop) (m' : Ow), Rp G.F H' z' τ d v m' → Stp H z m H' z' m' → Ext H H' → Q v H') (r : Rp G.F H z τ d v fun _ => 0) : Q v H :=
  k v H z (fun _ => 0) r ((Stp.refl ok).drop fun _ => Nat.zero_le _) Ext.refl
theorem ops_lst (ok : Ok H z m) {Q : VK} {xs : List D} (k : ∀ (v : V) (H' : Hp) (z' : Addr → Prop) (m' : Ow), Rp G.F H' z' (.N .o τ) (.list xs) v m' → Stp H z m H' z' m' → Ext H H' → Q v H') (r : RL G.F H z τ xs vs fun _ => 0) : ∀ p, H p = none → Q (.ref p) (upd H p (.lst vs)) := fun p hp =>
  k (.ref p) _ z (one p) (Rp.mkL ⟨upd_same, fun _ => rfl⟩ (r.new hp) fun _ => by simp) (((Stp.own (o := .lst vs) (Stp.refl ok) hp trivial)).drop fun b => Nat.le_add_right _ _) (Ext.new hp)
theorem ops_tup (ok : Ok H z m) {Q : VK} {xs : List D} (k : ∀ (v : V) (H' : Hp) (z' : Addr → Prop) (m' : Ow), Rp G.F H' z' τ (.tuple xs) v m' → Stp H z m H' z' m' → Ext H H' → Q v H') (r : RL G.F H z τ xs vs fun _ => 0) : ∀ p, H p = none → Q (.ref p) (upd H p (.tup vs)) := fun p hp =>
  k (.ref p) _ z (fun _ => 0) (Rp.mkT (.inl (.inl upd_same)) (r.new hp)) (((Stp.refl ok).drop fun _ => Nat.zero_le _).ext hp) (Ext.new hp)
theorem RL.co0 {t u : Ty} (r : RL G.F H z t ds vs fun _ => 0) (s : sub t u = true) : RL G.F H z u ds vs fun _ => 0 := by
  obtain ⟨m', l, k⟩ := sub_co _ _ s r fun _ => Nat.zero_le _
  exact (k z (fun _ q => q) fun a q => absurd (show 1 ≤ 0 from q) (by decide)).eqm fun b => (Nat.le_zero.mp (l b)).symm
theorem RL.app0 {ds2 : List D} {vs2 : List V} (h1 : RL G.F H z τ ds vs fun _ => 0) (h2 : RL G.F H z τ ds2 vs2 fun _ => 0) : RL G.F H z τ (ds ++ ds2) (vs ++ vs2) fun _ => 0 := RL.append h1 h2 fun _ => rfl
theorem RL.cons0 (h1 : Rp G.F H z τ d v fun _ => 0) (h2 : RL G.F H z τ ds vs fun _ => 0) : RL G.F H z τ (d :: ds) (v :: vs) fun _ => 0 := RL.cons' h1 h2 fun _ => rfl
theorem RL.uncons0 (h : RL G.F H z τ (d :: ds) (v :: vs) fun _ => 0) : Rp G.F H z τ d v (fun _ => 0) ∧ RL G.F H z τ ds vs fun _ => 0 := by
  obtain ⟨m1, m2, r1, r2, q⟩ := h.uncons
  exact ⟨r1.eqm fun b => by have := q b; omega, r2.eqm fun b => by have := q b; omega⟩
theorem RL.drop0 : ∀ (n : Nat) {ds : List D} {vs : List V}, RL G.F H z τ ds vs (fun _ => 0) → RL G.F H z τ (ds.drop n) (vs.drop n) fun _ => 0
  | 0, _, _, h => h
  | n + 1, [], vs, h => by
    have : vs = [] := List.length_eq_zero_iff.mp h.length.symm
    subst this
    exact h
  | n + 1, d :: ds, [], h => by have := h.length; cases this
  | n + 1, d :: ds, v :: vs, h => RL.drop0 n h.uncons0.2
theorem RL.take0 : ∀ (n : Nat) {ds : List D} {vs : List V}, RL G.F H z τ ds vs (fun _ => 0) → RL G.F H z τ (ds.take n) (vs.take n) fun _ => 0
  | 0, _, _, h => .nil fun _ => rfl
  | n + 1, [], vs, h => by
    have : vs = [] := List.length_eq_zero_iff.mp h.length.symm
    subst this
    exact h
  | n + 1, d :: ds, [], h => by have := h.length; cases this
  | n + 1, d :: ds, v :: vs, h => RL.cons0 h.uncons0.1 (RL.take0 n h.uncons0.2)
theorem RL.cut0 {lo hi : Option Int} (h : RL G.F H z τ ds vs fun _ => 0) : RL G.F H z τ (cutD ds lo hi) (cutV vs lo hi) fun _ => 0 := by
  unfold cutD cutV sIx
  rw [h.length]
  exact (h.drop0 _).take0 _
theorem atI_rel {i : Int} (h : RL G.F H z τ ds vs fun _ => 0) (e : atI ds i = some d) : ∃ v, L2.atI vs i = some v ∧ Rp G.F H z τ d v fun _ => 0 := by
  unfold atI L2.atI at *
  rw [← h.length]
  cases q : L2.ixN ds.length i with
  | none => rw [q] at e; cases e
  | some j =>
    rw [q] at e
    obtain ⟨v, h1, h2⟩ := h.get0 (show ds[j]? = some d from e)
    exact ⟨v, h1, h2⟩
theorem ops_ixL : ∀ {τs τ}, opT .ixL τs = some τ → OpS G.F (rOf G.K G.w .ixL) τs τ (opv .ixL) := by
  intro τs τ ht H z mv ds vs d Q ra ok e k
  simp only [opv] at e
  split at e
  · obtain ⟨t1, t2, v1, v2, _, _, rfl, rfl, h1, h2, _⟩ := ra.two
    obtain rfl := Rp.int_inv h2
    obtain ⟨q, t, a, ws, _, _, rfl, rfl, hb, rl, _⟩ := Rp.list_inv h1
    cases ht
    obtain ⟨v, e1, r1⟩ := atI_rel rl.rdd e
    exact ⟨a, ws, _, v, rfl, rfl, Box.sqL hb, e1, ops_same ok k (by cases q <;> exact r1)⟩
  · cases e
theorem ops_ixT : ∀ {τs τ}, opT .ixT τs = some τ → OpS G.F (rOf G.K G.w .ixT) τs τ (opv .ixT) := by
  intro τs τ ht H z mv ds vs d Q ra ok e k
  simp only [opv] at e
  split at e
  · obtain ⟨t1, t2, v1, v2, _, _, rfl, rfl, h1, h2, _⟩ := ra.two
    obtain rfl := Rp.int_inv h2
    obtain ⟨a, ws, rfl, hb, rl⟩ := Rp.tup_inv h1
    cases ht
    obtain ⟨v, e1, r1⟩ := atI_rel rl.rdd e
    exact ⟨a, ws, _, v, rfl, rfl, hb, e1, ops_same ok k r1⟩
  · cases e
theorem ch_rd {q : Md} {t : Ty} : ch (rd (.N q t)) = rd t := by cases q <;> rfl
theorem slV_of {r : V → Option Int → Option Int → Hp → VK → Prop} {a b : Bool} {v1 : V} {ds' : List D} {vs : List V} {τs : List Ty} {m : Ow} {p : Option Int × Option Int} {Q : VK} (ra : RA G.F H z τs ds' vs m) (e : cutArgs a b ds' = some p) (h : r v1 p.1 p.2 H Q) : slV r a b (v1 :: vs) H Q := by
  unfold cutArgs optI at e
  cases a <;> cases b <;> simp only [if_true, Bool.false_eq_true, if_false] at e
  · split at e
    · rename_i h1
      cases h1
      cases e
      cases ra
      exact h
    · cases e
  · split at e
    · rename_i h1
      cases e
      split at h1
      · cases h1
        obtain ⟨_, v2, _, _, rfl, h2, _⟩ := ra.one1
        obtain rfl := Rp.int_inv h2
        exact ⟨_, rfl, h⟩
      · cases h1
    · cases e
  · split at e
    · rename_i h1
      split at h1
      · cases h1
        split at e
        · rename_i h3
          cases h3
          cases e
          obtain ⟨_, v2, _, _, rfl, h2, _⟩ := ra.one1
          obtain rfl := Rp.int_inv h2
          exact ⟨_, rfl, h⟩
        · cases e
      · cases h1
    · cases e
  · split at e
    · rename_i h1
      split at h1
      · cases h1
        split at e
        · rename_i h3
          cases e
          split at h3
          · cases h3
            obtain ⟨_, _, v2, v3, _, _, _, rfl, h2, h4, _⟩ := ra.two
            obtain rfl := Rp.int_inv h2
            obtain rfl := Rp.int_inv h4
            exact ⟨_, _, rfl, rfl, h⟩
          · cases h3
        · cases e
      · cases h1
    · cases e
theorem ops_slL {a b : Bool} : ∀ {τs τ}, opT (.slL a b) τs = some τ → OpS G.F (rOf G.K G.w (.slL a b)) τs τ (opv (.slL a b)) := by
  intro τs τ ht H z mv ds vs d Q ra ok e k
  simp only [opv] at e
  split at e
  · simp only [Option.map_eq_some_iff] at e
    obtain ⟨p, e, rfl⟩ := e
    cases ra with
    | cons h1 h2 c =>
      obtain ⟨q, t, a', ws, _, _, rfl, rfl, hb, rl, _⟩ := Rp.list_inv h1
      cases ht
      refine slV_of h2 e ⟨a', ws, rfl, Box.sqL hb, ?_⟩
      rw [ch_rd] at k
      exact ops_lst ok k rl.rdd.cut0
  · cases e
theorem cut_whole {lo hi : Option Int} {α : Type} {xs : List α} (h : HT.sIx xs.length 0 lo = 0 ∧ HT.sIx xs.length xs.length hi = xs.length) : cutD xs lo hi = xs := by
  unfold cutD sIx
  rw [h.1, h.2]
  simp
theorem ops_slT {a b : Bool} : ∀ {τs τ}, opT (.slT a b) τs = some τ → OpS G.F (rOf G.K G.w (.slT a b)) τs τ (opv (.slT a b)) := by
  intro τs τ ht H z mv ds vs d Q ra ok e k
  simp only [opv] at e
  split at e
  · simp only [Option.map_eq_some_iff] at e
    obtain ⟨p, e, rfl⟩ := e
    cases ra with
    | cons h1 h2 c =>
      obtain ⟨a', ws, rfl, hb, rl⟩ := Rp.tup_inv h1
      cases ht
      refine slV_of h2 e ⟨a', ws, rfl, hb, fun hw => ?_, fun _ => ops_tup ok k rl.rdd.cut0⟩
      rw [← rl.length] at hw
      refine ops_same ok k ?_
      rw [cut_whole hw]
      exact (Rp.mkT hb rl.rdd)
  · cases e
theorem ops_listL : ∀ {τs τ}, opT .listL τs = some τ → OpS G.F (rOf G.K G.w .listL) τs τ (opv .listL) := by
  intro τs τ ht H z mv ds vs d Q ra ok e k
  simp only [opv] at e
  split at e
  · obtain ⟨t1, v1, _, rfl, rfl, h1, _⟩ := ra.one1
    cases e
    obtain ⟨q, t, a', ws, _, _, rfl, rfl, hb, rl, _⟩ := Rp.list_inv h1
    cases ht
    rw [ch_rd] at k
    exact ⟨a', ws, rfl, .inl (Box.sqL hb), ops_lst ok k rl.rdd⟩
  · cases e
theorem RL.rev : ∀ {ds : List D} {vs : List V} {m : Ow}, RL G.F H z τ ds vs m → RL G.F H z τ ds.reverse vs.reverse m
  | [], [], _, h => by simpa using h
  | [], _ :: _, _, h => by cases h
  | _ :: _, [], _, h => by cases h
  | d :: ds, v :: vs, m, h => by
    obtain ⟨m1, m2, h1, h2, h3⟩ := h.uncons
    rw [List.reverse_cons, List.reverse_cons]
    exact RL.append (RL.rev h2) h1 fun b => by rw [h3]; omega
theorem ops_revL : ∀ {τs τ}, opT .revL τs = some τ → OpS G.F (rOf G.K G.w .revL) τs τ (opv .revL) := by
  intro τs τ ht H z mv ds vs d Q ra ok e k
  simp only [opv] at e
  split at e
  · obtain ⟨t1, v1, _, rfl, rfl, h1, _⟩ := ra.one1
    cases e
    obtain ⟨q, t, a', ws, _, _, rfl, rfl, hb, rl, _⟩ := Rp.list_inv h1
    cases ht
    rw [ch_rd] at k
    exact ⟨a', ws, rfl, Box.sqL hb, ops_lst ok k rl.rdd.rev⟩
  · cases e
theorem ops_listT : ∀ {τs τ}, opT .listT τs = some τ → OpS G.F (rOf G.K G.w .listT) τs τ (opv .listT) := by
  intro τs τ ht H z mv ds vs d Q ra ok e k
  simp only [opv] at e
  split at e
  · obtain ⟨t1, v1, _, rfl, rfl, h1, _⟩ := ra.one1
    cases e
    obtain ⟨a', ws, rfl, hb, rl⟩ := Rp.tup_inv h1
    cases ht
    exact ⟨a', ws, rfl, .inr hb, ops_lst ok k rl.rdd⟩
  · cases e
theorem ops_tupL : ∀ {τs τ}, opT .tupL τs = some τ → OpS G.F (rOf G.K G.w .tupL) τs τ (opv .tupL) := by
  intro τs τ ht H z mv ds vs d Q ra ok e k
  simp only [opv] at e
  split at e
  · obtain ⟨t1, v1, _, rfl, rfl, h1, _⟩ := ra.one1
    cases e
    obtain ⟨q, t, a', ws, _, _, rfl, rfl, hb, rl, _⟩ := Rp.list_inv h1
    cases ht
    rw [ch_rd] at k
    exact .inl ⟨a', ws, rfl, Box.sqL hb, ops_tup ok k rl.rdd⟩
  · cases e
theorem ops_tupT : ∀ {τs τ}, opT .tupT τs = some τ → OpS G.F (rOf G.K G.w .tupT) τs τ (opv .tupT) := by
  intro τs τ ht H z mv ds vs d Q ra ok e k
  simp only [opv] at e
  split at e
  · obtain ⟨t1, v1, _, rfl, rfl, h1, _⟩ := ra.one1
    cases e
    obtain ⟨a', ws, rfl, hb, rl⟩ := Rp.tup_inv h1
    cases ht
    exact .inr ⟨a', ws, rfl, hb, ops_same ok k (Rp.mkT hb rl.rdd)⟩
  · cases e
theorem rgN_one (a b : Int) : rgN a b 1 = (b - a).toNat := by
  unfold rgN
  rw [rangeSize_nat]
  omega
theorem RL.atoms : ∀ {ds : List D} {vs : List V}, ds.map atomV = vs.map some → RL G.F H z τ ds vs fun _ => 0
  | [], [], _ => .nil fun _ => rfl
  | [], _ :: _, h => by cases h
  | _ :: _, [], h => by cases h
  | d :: ds, v :: vs, h => by
    simp only [List.map_cons, List.cons.injEq] at h
    exact RL.cons0 (Rp.atom h.1) (RL.atoms h.2)
theorem rg_rel {a n : Int} : RL G.F H z τ (rangeD a n 1) (rgV a n) fun _ => 0 := by
  apply RL.atoms
  unfold rangeD rgV
  rw [rgN_one, List.map_map, List.map_map]
  apply List.map_congr_left
  intro i _
  simp [atomV]
theorem rgOk_one {a b : Int} (h : rgOk a b 1 = true) : RgOk a b := by
  unfold rgOk at h
  simp only [Bool.and_eq_true, decide_eq_true_eq] at h
  rw [rgN_one] at h
  exact ⟨h.1.1.1.1.1.1, h.1.1.1.1.1.2, h.1.1.1.1.2, h.1.1.1.2, h.2⟩
theorem ops_listR : ∀ {τs τ}, opT .listR τs = some τ → OpS G.F (rOf G.K G.w .listR) τs τ (opv .listR) := by
  intro τs τ ht H z mv ds vs d Q ra ok e k
  simp only [opv] at e
  split at e
  · split at e
    · rename_i hr
      obtain ⟨t1, v1, _, rfl, rfl, h1, _⟩ := ra.one1
      cases e
      obtain rfl := Rp.int_inv h1
      cases ht
      exact ⟨_, rfl, rgOk_one hr, ops_lst ok k rg_rel⟩
    · cases e
  · cases e
theorem ops_tupR : ∀ {τs τ}, opT .tupR τs = some τ → OpS G.F (rOf G.K G.w .tupR) τs τ (opv .tupR) := by
  intro τs τ ht H z mv ds vs d Q ra ok e k
  simp only [opv] at e
  split at e
  · split at e
    · rename_i hr
      obtain ⟨t1, v1, _, rfl, rfl, h1, _⟩ := ra.one1
      cases e
      obtain rfl := Rp.int_inv h1
      cases ht
      exact ⟨_, rfl, rgOk_one hr, ops_tup ok k rg_rel⟩
    · cases e
  · cases e
theorem lubT_inv {a b t : Ty} (h : lubT a b = some t) : sub a t = true ∧ sub b t = true := by
  unfold lubT at h
  split at h
  · rename_i q
    rw [Bool.and_eq_true] at q
    cases h
    exact q
  · cases h
theorem ops_catL : ∀ {τs τ}, opT .catL τs = some τ → OpS G.F (rOf G.K G.w .catL) τs τ (opv .catL) := by
  intro τs τ ht H z mv ds vs d Q ra ok e k
  simp only [opv] at e
  split at e
  · split at e
    · rename_i hz
      obtain ⟨t1, t2, v1, v2, _, _, rfl, rfl, h1, h2, _⟩ := ra.two
      cases e
      obtain ⟨q, t, a, ws, _, _, rfl, rfl, hb, rl, _⟩ := Rp.list_inv h1
      obtain ⟨q', t', a', ws', _, _, rfl, rfl, hb', rl', _⟩ := Rp.list_inv h2
      simp only [opT, Option.map_eq_some_iff] at ht
      obtain ⟨u, hu, rfl⟩ := ht
      obtain ⟨s1, s2⟩ := lubT_inv hu
      rw [ch_rd] at s1 s2
      exact ⟨a, a', ws, ws', rfl, rfl, Box.sqL hb, Box.sqL hb', by rw [← rl.length, ← rl'.length]; exact hz, ops_lst ok k (RL.app0 (rl.rdd.co0 s1) (rl'.rdd.co0 s2))⟩
    · cases e
  · cases e
theorem ops_catT : ∀ {τs τ}, opT .catT τs = some τ → OpS G.F (rOf G.K G.w .catT) τs τ (opv .catT) := by
  intro τs τ ht H z mv ds vs d Q ra ok e k
  simp only [opv] at e
  split at e
  · split at e
    · rename_i xs ys hz
      obtain ⟨t1, t2, v1, v2, _, _, rfl, rfl, h1, h2, _⟩ := ra.two
      cases e
      obtain ⟨a, ws, rfl, hb, rl⟩ := Rp.tup_inv h1
      obtain ⟨a', ws', rfl, hb', rl'⟩ := Rp.tup_inv h2
      obtain ⟨s1, s2⟩ := lubT_inv (show lubT _ _ = some _ from ht)
      refine ⟨a, a', ws, ws', rfl, rfl, hb, hb', by rw [← rl.length, ← rl'.length]; exact hz, fun hn => ?_, fun _ hn => ?_, fun _ _ => ops_tup ok k (RL.app0 (rl.rdd.co0 s1) (rl'.rdd.co0 s2))⟩
      · have : xs = [] := List.length_eq_zero_iff.mp (by rw [rl.length, hn]; rfl)
        subst this
        exact ops_same ok k (Rp.mkT hb' (rl'.rdd.co0 s2))
      · have : ys = [] := List.length_eq_zero_iff.mp (by rw [rl'.length, hn]; rfl)
        subst this
        simp only [List.append_nil] at k
        exact ops_same ok k (Rp.mkT hb (rl.rdd.co0 s1))
    · cases e
  · cases e
theorem at_catS : OpAt G (rOf G.K G.w .catS) (opv .catS) := by
  intro H z τs ds vs m d Q ra e
  simp only [opv] at e
  split at e
  · split at e
    · rename_i hz
      obtain ⟨_, _, v1, v2, _, _, _, rfl, h1, h2, _⟩ := ra.two
      cases e
      obtain rfl := Rp.str_inv h1
      obtain rfl := Rp.str_inv h2
      exact ⟨_, rfl, fun q => ⟨_, _, rfl, rfl, hz, q⟩⟩
    · cases e
  · cases e
theorem RL.mem0 {ps : List (D × V)} : RL G.F H z τ (ps.map Prod.fst) (ps.map Prod.snd) (fun _ => 0) ↔ ∀ p ∈ ps, Rp G.F H z τ p.1 p.2 fun _ => 0 := by
  induction ps with
  | nil => exact ⟨fun _ p hp => by simp at hp, fun _ => .nil fun _ => rfl⟩
  | cons p ps ih =>
    constructor
    · intro h q hq
      obtain ⟨h1, h2⟩ := RL.uncons0 h
      rcases List.mem_cons.mp hq with e | hq
      · subst e; exact h1
      · exact ih.mp h2 q hq
    · exact fun h => RL.cons0 (h p (by simp)) (ih.mpr fun q hq => h q (by simp [hq]))
theorem ops_srt : ∀ {τs τ}, opT .srt τs = some τ → OpS G.F (rOf G.K G.w .srt) τs τ (opv .srt) := by
  intro τs τ ht H z mv ds vs d Q ra ok e k
  simp only [opv] at e
  split at e
  · split at e
    · rename_i xs hs
      obtain ⟨t1, v1, _, rfl, rfl, h1, _⟩ := ra.one1
      cases e
      obtain ⟨q, t, a', ws, _, _, rfl, rfl, hb, rl, _⟩ := Rp.list_inv h1
      cases ht
      rw [ch_rd] at k
      have al : noDs xs = true := by
        unfold srtOk allAlike at hs
        simp only [Bool.and_eq_true, List.all_eq_true, decide_eq_true_eq] at hs
        have h1 : ∀ d ∈ xs, noD d = true := fun d hd => noD_alike d (hs.1.1 d hd d hd)
        have : ∀ l : List D, (∀ d ∈ l, noD d = true) → noDs l = true := fun l => by
          induction l with
          | nil => exact fun _ => rfl
          | cons x l ih => intro h; show (noD x && noDs l) = true; rw [h x (by simp), ih fun d hd => h d (by simp [hd])]; rfl
        exact this xs h1
      refine ⟨a', ws, xs, rfl, Box.sqL hb, rl.dpn al, hs, ?_⟩
      have hl := rl.length
      have e1 : (xs.zip ws).map Prod.fst = xs := by rw [List.map_fst_zip]; omega
      have e2 : (xs.zip ws).map Prod.snd = ws := by rw [List.map_snd_zip]; omega
      have hm : ((xs.zip ws).mergeSort (W.dataLe false Prod.fst)).map Prod.fst = sortD xs := by
        unfold sortD
        conv => rhs; rw [← e1]
        exact List.map_mergeSort fun a _ b _ => rfl
      have r0 : RL G.F H z (rd t) ((xs.zip ws).map Prod.fst) ((xs.zip ws).map Prod.snd) fun _ => 0 := by rw [e1, e2]; exact rl.rdd
      have r1 : RL G.F H z (rd t) (sortD xs) (((xs.zip ws).mergeSort (W.dataLe false Prod.fst)).map Prod.snd) fun _ => 0 := by
        rw [← hm]
        exact RL.mem0.mpr fun p hp => RL.mem0.mp r0 p (List.mem_mergeSort.mp hp)
      exact ops_lst ok k r1
    · cases e
  · cases e
theorem Rp.dpn1 (h : Rp G.F H z τ d v m) (c : noD d = true) : Dp G.K H v d := by
  have q := RL.dpn h (by simp [noDs, c])
  cases q with
  | cons a _ => exact a
theorem noD_mm {ds : List D} (h : mmOk ds = true) : ∀ d ∈ ds, noD d = true := by
  unfold mmOk allAlike at h
  simp only [Bool.and_eq_true, List.all_eq_true] at h
  exact fun d hd => noD_alike d (h.1.1 d hd d hd)
theorem at_ltD : OpAt G (rOf G.K G.w .ltD) (opv .ltD) := by
  intro H z τs ds vs m d Q ra e
  simp only [opv] at e
  split at e
  · split at e
    · rename_i x y hm
      obtain ⟨_, _, v1, v2, _, _, _, rfl, h1, h2, _⟩ := ra.two
      cases e
      exact ⟨_, rfl, fun q => ⟨_, _, Rp.dpn1 h1 (noD_mm hm x (by simp)), Rp.dpn1 h2 (noD_mm hm y (by simp)), hm, q⟩⟩
    · cases e
  · cases e
theorem ops_mx2D : ∀ {τs τ}, opT .mx2D τs = some τ → OpS G.F (rOf G.K G.w .mx2D) τs τ (opv .mx2D) := by
  intro τs τ ht H z mv ds vs d Q ra ok e k
  simp only [opv] at e
  split at e
  · split at e
    · rename_i x y hm
      obtain ⟨t1, t2, v1, v2, _, _, rfl, rfl, h1, h2, _⟩ := ra.two
      have ht : lubT (rd t1) (rd t2) = some τ := ht
      obtain ⟨s1, s2⟩ := lubT_inv ht
      refine ⟨v1, v2, x, y, rfl, Rp.dpn1 h1 (noD_mm hm x (by simp)), Rp.dpn1 h2 (noD_mm hm y (by simp)), hm, ?_⟩
      cases e
      by_cases c : W.dataLt x y = true
      · rw [if_pos c] at k ⊢
        exact ops_same ok k (RL.co0 h2.rdd s2)
      · rw [if_neg c] at k ⊢
        exact ops_same ok k (RL.co0 h1.rdd s1)
    · cases e
  · cases e
theorem ops_mn2D : ∀ {τs τ}, opT .mn2D τs = some τ → OpS G.F (rOf G.K G.w .mn2D) τs τ (opv .mn2D) := by
  intro τs τ ht H z mv ds vs d Q ra ok e k
  simp only [opv] at e
  split at e
  · split at e
    · rename_i x y hm
      obtain ⟨t1, t2, v1, v2, _, _, rfl, rfl, h1, h2, _⟩ := ra.two
      have ht : lubT (rd t1) (rd t2) = some τ := ht
      obtain ⟨s1, s2⟩ := lubT_inv ht
      refine ⟨v1, v2, x, y, rfl, Rp.dpn1 h1 (noD_mm hm x (by simp)), Rp.dpn1 h2 (noD_mm hm y (by simp)), hm, ?_⟩
      cases e
      by_cases c : W.dataLt y x = true
      · rw [if_pos c] at k ⊢
        exact ops_same ok k (RL.co0 h2.rdd s2)
      · rw [if_neg c] at k ⊢
        exact ops_same ok k (RL.co0 h1.rdd s1)
    · cases e
  · cases e
theorem noDs_all : ∀ {ds : List D}, (∀ d ∈ ds, noD d = true) → noDs ds = true
  | [], _ => rfl
  | d :: ds, h => by
    show (noD d && noDs ds) = true
    rw [h d List.mem_cons_self, noDs_all fun x hx => h x (List.mem_cons_of_mem _ hx)]
    rfl
theorem ops_mxLD : ∀ {τs τ}, opT .mxLD τs = some τ → OpS G.F (rOf G.K G.w .mxLD) τs τ (opv .mxLD) := by
  intro τs τ ht H z mv ds vs d Q ra ok e k
  simp only [opv] at e
  split at e
  · split at e
    · rename_i x xs hm
      obtain ⟨τ1, v1, _, rfl, rfl, h1, _⟩ := ra.one1
      obtain ⟨q, t, a, ws, _, _, rfl, rfl, hb, rl, _⟩ := Rp.list_inv h1
      cases ht
      cases e
      refine ⟨a, ws, x, xs, rfl, Box.sqL hb, rl.dpn (noDs_all (noD_mm hm)), hm, fun i v hv hd => ?_⟩
      obtain ⟨v', h2, h3⟩ := RL.get0 rl.rdd hd
      rw [hv] at h2
      cases h2
      exact ops_same ok k (by cases q <;> exact h3)
    · cases e
  · cases e
theorem ops_mnLD : ∀ {τs τ}, opT .mnLD τs = some τ → OpS G.F (rOf G.K G.w .mnLD) τs τ (opv .mnLD) := by
  intro τs τ ht H z mv ds vs d Q ra ok e k
  simp only [opv] at e
  split at e
  · split at e
    · rename_i x xs hm
      obtain ⟨τ1, v1, _, rfl, rfl, h1, _⟩ := ra.one1
      obtain ⟨q, t, a, ws, _, _, rfl, rfl, hb, rl, _⟩ := Rp.list_inv h1
      cases ht
      cases e
      refine ⟨a, ws, x, xs, rfl, Box.sqL hb, rl.dpn (noDs_all (noD_mm hm)), hm, fun i v hv hd => ?_⟩
      obtain ⟨v', h2, h3⟩ := RL.get0 rl.rdd hd
      rw [hv] at h2
      cases h2
      exact ops_same ok k (by cases q <;> exact h3)
    · cases e
  · cases e
theorem ops_mnLN : ∀ {τs τ}, opT .mnLN τs = some τ → OpS G.F (rOf G.K G.w .mnLN) τs τ (opv .mnLN) := by
  intro τs τ ht H z mv ds vs d Q ra ok e k
  simp only [opv] at e
  split at e
  · obtain ⟨τ1, v1, _, rfl, rfl, h1, _⟩ := ra.one1
    obtain ⟨q, t, a, ws, _, _, rfl, rfl, hb, rl, _⟩ := Rp.list_inv h1
    cases ht
    cases e
    refine ⟨a, ws, [], rfl, Box.sqL hb, rl.dpn rfl, rfl, fun _ => ops_same ok k (Rp.atom rfl), fun d r i v er _ _ => (by cases er)⟩
  · split at e
    · rename_i x xs hm
      obtain ⟨τ1, v1, _, rfl, rfl, h1, _⟩ := ra.one1
      obtain ⟨q, t, a, ws, _, _, rfl, rfl, hb, rl, _⟩ := Rp.list_inv h1
      cases ht
      cases e
      refine ⟨a, ws, x :: xs, rfl, Box.sqL hb, rl.dpn (noDs_all (noD_mm hm)), hm, fun e => (by cases e), fun d r i v er hv hd => ?_⟩
      cases er
      obtain ⟨v', h2, h3⟩ := RL.get0 rl.rdd hd
      rw [hv] at h2
      cases h2
      exact ops_same ok k (by cases q <;> exact h3)
    · cases e
  · cases e
end En

set_option Elab.async false
set_option linter.all false
set_option autoImplicit false
set_option maxRecDepth 100000
namespace En
open PySem PySem.Spec PyProof.Rows L2 RZ
variable {G : Gx} {W : WX} {H H' H'' : Hp} {z z' z'' : Addr → Prop} {τ τ' t u : Ty} {d : D} {v : V} {ds ks : List D} {vs : List V} {m m' m1 m2 m0 : Ow} {τs : List Ty}

/-! ## dicts, by their data -/
mutual
theorem eqv_nk : ∀ (a b : D) {x y : NestedKey}, nkOf a = some x → nkOf b = some y → PyData.eqv a b = NestedKey.beq x y
  | .none, b, x, y, h, h' => by
    cases h
    cases b <;> simp [nkOf] at h' <;> (try subst h') <;> (try (obtain ⟨_, _, rfl⟩ := h')) <;> rfl
  | .int i, b, x, y, h, h' => by
    cases h
    cases b <;> simp [nkOf] at h' <;> (try subst h') <;> (try (obtain ⟨_, _, rfl⟩ := h')) <;> rfl
  | .str i, b, x, y, h, h' => by
    cases h
    cases b <;> simp [nkOf] at h' <;> (try subst h') <;> (try (obtain ⟨_, _, rfl⟩ := h')) <;> rfl
  | .tuple xs, b, x, y, h, h' => by
    simp only [nkOf, Option.map_eq_some_iff] at h
    obtain ⟨k, h, rfl⟩ := h
    cases b with
    | tuple ys =>
      simp only [nkOf, Option.map_eq_some_iff] at h'
      obtain ⟨k', h', rfl⟩ := h'
      exact eqv_nks xs ys h h'
    | none => cases h'; rfl
    | int _ => cases h'; rfl
    | str _ => cases h'; rfl
    | bool _ => cases h'
    | list _ => cases h'
    | dict _ => cases h'
  | .bool _, _, _, _, h, _ => by cases h
  | .list _, _, _, _, h, _ => by cases h
  | .dict _, _, _, _, h, _ => by cases h
theorem eqv_nks : ∀ (a b : List D) {x y : List NestedKey}, nksOf a = some x → nksOf b = some y → PyData.eqvAll a b = NestedKey.beqAll x y
  | [], b, x, y, h, h' => by
    cases h
    cases b with
    | nil => cases h'; rfl
    | cons d ds =>
      simp only [nksOf] at h'
      split at h'
      · cases h'; rfl
      · cases h'
  | d :: ds, b, x, y, h, h' => by
    simp only [nksOf] at h
    split at h
    · rename_i k kk e1 e2
      cases h
      cases b with
      | nil => cases h'; rfl
      | cons d' ds' =>
        simp only [nksOf] at h'
        split at h'
        · rename_i k' kk' e1' e2'
          cases h'
          show (PyData.eqv d d' && PyData.eqvAll ds ds') = (NestedKey.beq k k' && NestedKey.beqAll kk kk')
          rw [eqv_nk d d' e1 e1', eqv_nks ds ds' e2 e2']
        · cases h'
    · cases h
end
theorem eqv_kd (a b : Key) : PyData.eqv (kd a) (kd b) = decide (a = b) := by
  cases a with
  | inl i => cases b with
    | inl j =>
      show (i == j) = _
      by_cases h : i = j <;> simp [h]
    | inr y =>
      show false = _
      simp
  | inr x => cases b with
    | inl j =>
      show false = _
      simp
    | inr y =>
      show (x == y) = _
      by_cases h : x = y <;> simp [h]
theorem keyOk_inv {k : D} (h : keyOk k = true) : ∃ q : Key, k = kd q := by
  cases k <;> simp [keyOk] at h
  · exact ⟨.inl _, rfl⟩
  · exact ⟨.inr _, rfl⟩
theorem keyOk_kd (q : Key) : keyOk (kd q) = true := by cases q <;> rfl
theorem keyT_kd (q : Key) : keyT (kd q) = false := by cases q <;> rfl
theorem keyT_inv {k : D} (h : keyT k = true) : ∃ q, nkOf k = some q ∧ nkT q = true := by
  unfold keyT at h
  split at h
  · exact ⟨_, by assumption, h⟩
  · cases h
theorem keyT_keyOk {k : D} (h : keyT k = true) : keyOk k = false := by
  obtain ⟨q, h1, h2⟩ := keyT_inv h
  cases k <;> first | rfl | skip
  · cases h1; cases h2
  · cases h1; cases h2
mutual
theorem nk_imm : ∀ (d : D) {k : NestedKey}, nkOf d = some k → imm d = true ∧ noD d = true
  | .none, _, _ => ⟨rfl, rfl⟩
  | .int _, _, _ => ⟨rfl, rfl⟩
  | .str _, _, _ => ⟨rfl, rfl⟩
  | .tuple xs, _, h => by
    simp only [nkOf, Option.map_eq_some_iff] at h
    obtain ⟨k, h, rfl⟩ := h
    exact nks_imm xs h
  | .bool _, _, h => by cases h
  | .list _, _, h => by cases h
  | .dict _, _, h => by cases h
theorem nks_imm : ∀ (ds : List D) {k : List NestedKey}, nksOf ds = some k → immAll ds = true ∧ noDs ds = true
  | [], _, _ => ⟨rfl, rfl⟩
  | d :: ds, _, h => by
    simp only [nksOf] at h
    split at h
    · rename_i k kk e1 e2
      obtain ⟨a, b⟩ := nk_imm d e1
      obtain ⟨a', b'⟩ := nks_imm ds e2
      exact ⟨by simp [immAll, a, a'], by simp [noDs, b, b']⟩
    · cases h
end
theorem Rp.dpn (h : Rp G.F H z τ d v m) (c : noD d = true) : Dp G.K H v d := by
  have q := RL.dpn h (by simp [noDs, c])
  cases q with
  | cons a _ => exact a
theorem Rp.nkey {k : NestedKey} (h : Rp G.F H z τ d v m) (e : nkOf d = some k) (n : nkT k = true) : NKey G.K H v k := by
  have h' := h.dpn (nk_imm d e).2
  cases d with
  | tuple xs =>
    obtain ⟨a, vs, rfl, _, _⟩ := Rp.tup_inv h
    exact ⟨a, _, rfl, h', e, n⟩
  | none => cases e; cases n
  | int _ => cases e; cases n
  | str _ => cases e; cases n
  | bool _ => cases e
  | list _ => cases e
  | dict _ => cases e
/-- where a key stands -/
theorem put_rel {κ : Type} [DecidableEq κ] {kk : κ} {k y : D} : ∀ (ks ds : List D) (qs : List κ), ks.length = ds.length → Paired (fun (a : D) (q : κ) => PyData.eqv a k = decide (q = kk)) ks qs →
    (kk ∉ qs ∧ dput (ks.zip ds) k y = (ks ++ [k]).zip (ds ++ [y]) ∧ dlook (ks.zip ds) k = none) ∨ ∃ j, j < ds.length ∧ qs[j]? = some kk ∧ (∀ i, i < j → qs[i]? ≠ some kk) ∧ dput (ks.zip ds) k y = ks.zip (ds.set j y) ∧ dlook (ks.zip ds) k = ds[j]?
  | [], [], _, _, .nil => .inl ⟨by simp, rfl, rfl⟩
  | [], _ :: _, _, h, _ => by cases h
  | _ :: _, [], _, h, _ => by cases h
  | a :: ks, e :: ds, q :: qs, h, .cons h1 h2 => by
    by_cases hq : q = kk
    · refine .inr ⟨0, by simp, by simp [hq], fun i hi => by omega, ?_, ?_⟩
      · have : PyData.eqv a k = true := by rw [h1, hq]; simp
        simp [dput, this]
      · have : PyData.eqv a k = true := by rw [h1, hq]; simp
        simp [dlook, List.find?_cons, this]
    · have hf : PyData.eqv a k = false := by rw [h1]; simp [hq]
      rcases put_rel (kk := kk) (y := y) ks ds qs (by simpa using h) h2 with ⟨h3, h4, h5⟩ | ⟨j, h3, h4, h5, h6, h7⟩
      · refine .inl ⟨?_, ?_, ?_⟩
        · rw [List.mem_cons, not_or]
          exact ⟨fun e => hq e.symm, h3⟩
        · simp [dput, hf, h4]
        · have : dlook ((a, e) :: ks.zip ds) k = dlook (ks.zip ds) k := by simp [dlook, List.find?_cons, hf]
          simp only [List.zip_cons_cons, this, h5]
      · refine .inr ⟨j + 1, by simp; omega, by simpa using h4, fun i hi => ?_, ?_, ?_⟩
        · cases i with
          | zero => simpa using hq
          | succ i => simpa using h5 i (by omega)
        · simp [dput, hf, h6]
        · have : dlook ((a, e) :: ks.zip ds) k = dlook (ks.zip ds) k := by simp [dlook, List.find?_cons, hf]
          simp only [List.zip_cons_cons, this, h7, List.getElem?_cons_succ]
theorem find_at {κ β γ : Type} [DecidableEq κ] (f : κ × β → γ) {kk : κ} : ∀ {l : List (κ × β)} {j : Nat} {p : κ × β}, l[j]? = some p → (l.map (·.1))[j]? = some kk → (∀ i, i < j → (l.map (·.1))[i]? ≠ some kk) → (l.find? fun x => decide (x.1 = kk)) = some p
  | [], _, _, h, _, _ => by simp at h
  | q :: l, 0, p, h, h1, _ => by
    simp only [List.getElem?_cons_zero, Option.some.injEq, List.map_cons] at h h1
    subst h
    simp [List.find?_cons, h1]
  | q :: l, j + 1, p, h, h1, h2 => by
    have : ¬ q.1 = kk := by simpa using h2 0 (by omega)
    simp only [List.find?_cons, decide_eq_false this]
    exact find_at f (j := j) (by simpa using h) (by simpa using h1) fun i hi => by simpa using h2 (i + 1) (by omega)
theorem find_no {κ β : Type} [DecidableEq κ] {kk : κ} {l : List (κ × β)} (h : kk ∉ l.map (·.1)) : (l.find? fun x => decide (x.1 = kk)) = none := by
  rw [List.find?_eq_none]
  intro x hx he
  exact h (List.mem_map.mpr ⟨x, hx, by simpa using he⟩)
theorem map_set {κ β : Type} [DecidableEq κ] {kk : κ} (g : κ × β → κ × β) : ∀ {l : List (κ × β)} {j : Nat} {p : κ × β}, (l.map (·.1)).Nodup → l[j]? = some p → p.1 = kk → (l.map fun x => if x.1 = kk then g x else x) = l.set j (g p)
  | [], _, _, _, h, _ => by simp at h
  | q :: l, 0, p, n, h, e => by
    simp only [List.getElem?_cons_zero, Option.some.injEq] at h
    subst h
    rw [List.map_cons, List.nodup_cons] at n
    rw [List.map_cons, if_pos e, List.set_cons_zero]
    congr 1
    conv => rhs; rw [← List.map_id l]
    refine List.map_congr_left fun x hx => if_neg fun e' => n.1 (List.mem_map.mpr ⟨x, hx, by rw [e', e]⟩)
  | q :: l, j + 1, p, n, h, e => by
    rw [List.map_cons, List.nodup_cons] at n
    have h' : l[j]? = some p := by simpa using h
    have hq : ¬ q.1 = kk := fun e' => n.1 (List.mem_map.mpr ⟨p, List.mem_of_getElem? h', by rw [e, e']⟩)
    rw [List.map_cons, if_neg hq, List.set_cons_succ, map_set g (j := j) n.2 h' e]
/-- the two shapes of a dict -/
theorem Rp.dict_two {kvs : List (D × D)} (h : Rp G.F H z τ (.dict kvs) v m) : ∃ q t a, τ = .N q t ∧ v = .ref a ∧ ∃ (ks ds : List D) (m0 m1 : Ow), kvs = ks.zip ds ∧ (∀ b, m b = m0 b + m1 b) ∧
    ((∃ hk : List (Key × V), (hk.map (·.1)).Nodup ∧ ks = hk.map (fun p => kd p.1) ∧ ds.length = hk.length ∧ Box G.K H z a (.dK hk) False q m0 ∧ RL G.F H z t ds (hk.map (·.2)) m1) ∨
     ∃ xs : List NE, xs ≠ [] ∧ KeysT ks xs ∧ ds.length = xs.length ∧ Box G.K H z a (dctO G.w a xs) False q m0 ∧ RL G.F H z t (ks ++ ds) (xs.map (fun x => .ref x.2.1) ++ xs.map (fun x => x.2.2)) m1) := by
  cases h with
  | cons a b c q =>
    cases c with
    | nil e =>
      cases a with
      | dk n l h => exact ⟨_, _, _, rfl, rfl, _, _, _, _, rfl, fun x => by have := q x; have := e x; omega, .inl ⟨_, n, rfl, l, h, b⟩⟩
      | dt n k l h => exact ⟨_, _, _, rfl, rfl, _, _, _, _, rfl, fun x => by have := q x; have := e x; omega, .inr ⟨_, n, k, l, h, b⟩⟩
theorem RL.parts {ds2 : List D} {vs2 : List V} (h : RL G.F H z τ (ds ++ ds2) (vs ++ vs2) m) (l : ds.length = vs.length) : ∃ n1 n2, RL G.F H z τ ds vs n1 ∧ RL G.F H z τ ds2 vs2 n2 ∧ ∀ b, m b = n1 b + n2 b := by
  induction ds generalizing vs m with
  | nil =>
    cases vs with
    | nil => exact ⟨fun _ => 0, m, .nil fun _ => rfl, h, fun b => by simp⟩
    | cons _ _ => cases l
  | cons d ds ih =>
    cases vs with
    | nil => cases l
    | cons v vs =>
      obtain ⟨k1, k2, h1, h2, h3⟩ := RL.uncons (show RL G.F H z τ (d :: (ds ++ ds2)) (v :: (vs ++ vs2)) m from h)
      obtain ⟨n1, n2, q1, q2, q3⟩ := ih h2 (by simpa using l)
      exact ⟨fun b => k1 b + n1 b, n2, RL.cons' h1 q1 fun _ => rfl, q2, fun b => by have := h3 b; have := q3 b; simp only; omega⟩
theorem KeysT.len {xs : List NE} (h : KeysT ks xs) : ks.length = xs.length := by
  have := congrArg List.length h.1
  simpa using this
theorem keys_dk {hk : List (Key × V)} (k : Key) : Paired (fun (a : D) (q : Key) => PyData.eqv a (kd k) = decide (q = k)) (hk.map fun p => kd p.1) (hk.map (·.1)) := by
  induction hk with
  | nil => exact .nil
  | cons p hk ih => exact .cons (eqv_kd _ _) ih
theorem keys_dt {k : D} {q : NestedKey} (hk : nkOf k = some q) : ∀ {ks : List D} {xs : List NE}, ks.map nkOf = xs.map (fun x => some x.1) → Paired (fun (a : D) (p : NestedKey) => PyData.eqv a k = decide (p = q)) ks (xs.map (·.1))
  | [], [], _ => .nil
  | [], _ :: _, h => by simp at h
  | _ :: _, [], h => by simp at h
  | a :: ks, x :: xs, h => by
    simp only [List.map_cons, List.cons.injEq] at h
    exact .cons (by rw [eqv_nk a k h.1 hk, NestedKey.decide_eq]) (keys_dt hk h.2)
theorem nkeys_of {xs : List NE} : ∀ {ks : List D} {m : Ow}, KeysT ks xs → RL G.F H z τ ks (xs.map fun x => .ref x.2.1) m → ∀ x ∈ xs, NKey G.K H (.ref x.2.1) x.1 := by
  induction xs with
  | nil => intro ks m _ _ x hx; cases hx
  | cons y xs ih =>
    intro ks m hk h x hx
    cases ks with
    | nil => have := hk.1; simp at this
    | cons k ks =>
      have h1 := hk.1
      simp only [List.map_cons, List.cons.injEq] at h1
      obtain ⟨_, _, r1, r2, _⟩ := h.uncons
      rcases List.mem_cons.mp hx with e | hx
      · subst e
        exact r1.nkey h1.1 (hk.2.1 _ List.mem_cons_self)
      · exact ih ⟨h1.2, fun x hx => hk.2.1 x (List.mem_cons_of_mem _ hx), (List.nodup_cons.mp (by simpa using hk.2.2)).2⟩ r2 x hx
theorem kyOk_inv {kvs : List (D × D)} {k : D} (h : kyOk kvs k = true) : (keyOk k = true ∧ ∀ p ∈ kvs, keyOk p.1 = true) ∨ (keyT k = true ∧ ∀ p ∈ kvs, keyT p.1 = true) := by
  unfold kyOk at h
  simpa [Bool.or_eq_true, Bool.and_eq_true, List.all_eq_true] using h
theorem keysT_keyT {xs : List NE} (h : KeysT ks xs) (n : xs ≠ []) (l : ds.length = xs.length) (hk : ∀ p ∈ ks.zip ds, keyOk p.1 = true) : False := by
  cases xs with
  | nil => exact n rfl
  | cons x xs =>
    cases ks with
    | nil => have := h.1; simp at this
    | cons k ks =>
      cases ds with
      | nil => cases l
      | cons d ds =>
        have h1 := h.1
        simp only [List.map_cons, List.cons.injEq] at h1
        have h2 := hk (k, d) (by simp)
        have h3 : keyT k = true := by
          unfold keyT
          rw [h1.1]
          exact h.2.1 x List.mem_cons_self
        rw [keyT_keyOk h3] at h2
        cases h2
/-- what is read at a key -/
theorem dict_look {kvs : List (D × D)} {k : D} {vk : V} {τk : Ty} {mk : Ow} (h : Rp G.F H z τ (.dict kvs) v m) (hk : Rp G.F H z τk k vk mk) (ok : kyOk kvs k = true) : ∃ q t a o, τ = .N q t ∧ v = .ref a ∧ DGN G.K G.w H a vk o ∧
    ((dlook kvs k = none ∧ o = none) ∨ ∃ d w, dlook kvs k = some d ∧ o = some w ∧ Rp G.F H z (rd t) d w fun _ => 0) := by
  obtain ⟨q, t, a, rfl, rfl, ks, ds, m0, m1, rfl, _, ⟨hk', nd, rfl, hl, hb, rl⟩ | ⟨xs, hn, hkt, hl, hb, rl⟩⟩ := h.dict_two
  · refine ⟨q, t, a, ?_⟩
    rcases kyOk_inv ok with ⟨k1, _⟩ | ⟨k1, k2⟩
    · obtain ⟨kk, rfl⟩ := keyOk_inv k1
      have ev : vk = kV kk := by
        cases kk with
        | inl i => exact Rp.int_inv hk
        | inr i => exact Rp.str_inv hk
      subst ev
      refine ⟨_, rfl, rfl, .inl (.inl ⟨hk', kk, Box.rdd hb, rfl, rfl⟩), ?_⟩
      rcases put_rel (y := .none) (hk'.map fun p => kd p.1) ds (hk'.map (·.1)) (by simp [hl]) (keys_dk kk) with ⟨h3, _, h5⟩ | ⟨j, h3, h4, h5, _, h7⟩
      · refine .inl ⟨h5, ?_⟩
        unfold valV
        rw [find_no h3]
        rfl
      · obtain ⟨w, r1, r2⟩ := rl.rdd.get0 (List.getElem?_eq_getElem h3)
        rw [List.getElem?_map, Option.map_eq_some_iff] at r1
        obtain ⟨p, r1, rfl⟩ := r1
        refine .inr ⟨_, p.2, by rw [h7, List.getElem?_eq_getElem h3], ?_, r2⟩
        unfold valV
        rw [find_at (fun p => p.2) r1 h4 h5]
        rfl
    · cases hk' with
      | nil =>
        obtain ⟨kk, e1, e2⟩ := keyT_inv k1
        refine ⟨none, rfl, rfl, .inr ⟨[], kk, ⟨.inr ⟨rfl, Box.rdd hb⟩, fun x hx => by cases hx⟩, hk.nkey e1 e2, rfl⟩, .inl ⟨rfl, rfl⟩⟩
      | cons p hk' =>
        exfalso
        cases ds with
        | nil => cases hl
        | cons d ds =>
          have := k2 (kd p.1, d) (by simp)
          rw [keyT_kd] at this
          cases this
  · refine ⟨q, t, a, ?_⟩
    obtain ⟨n1, n2, r1, r2, _⟩ := rl.parts (by rw [hkt.len, List.length_map])
    rcases kyOk_inv ok with ⟨_, k2⟩ | ⟨k1, k2⟩
    · exact (keysT_keyT hkt hn hl k2).elim
    · obtain ⟨kk, e1, e2⟩ := keyT_inv k1
      refine ⟨_, rfl, rfl, .inr ⟨xs, kk, ⟨.inl (Box.rdd hb), nkeys_of hkt r1⟩, hk.nkey e1 e2, rfl⟩, ?_⟩
      rcases put_rel (y := .none) ks ds (xs.map (·.1)) (by rw [hkt.len, hl]) (keys_dt e1 hkt.1) with ⟨h3, _, h5⟩ | ⟨j, h3, h4, h5, _, h7⟩
      · refine .inl ⟨h5, ?_⟩
        unfold valN
        rw [find_no h3]
        rfl
      · obtain ⟨w, r3, r4⟩ := r2.rdd.get0 (List.getElem?_eq_getElem h3)
        rw [List.getElem?_map, Option.map_eq_some_iff] at r3
        obtain ⟨p, r3, rfl⟩ := r3
        refine .inr ⟨_, p.2.2, by rw [h7, List.getElem?_eq_getElem h3], ?_, r4⟩
        unfold valN
        rw [find_at (fun p => p.2.2) r3 h4 h5]
        rfl
theorem ops_ixD : ∀ {τs τ}, opT .ixD τs = some τ → OpS G.F (rOf G.K G.w .ixD) τs τ (opv .ixD) := by
  intro τs τ ht H z mv ds vs d Q ra ok e k
  simp only [opv] at e
  split at e
  · split at e
    · rename_i hk
      obtain ⟨t1, t2, v1, v2, _, _, rfl, rfl, h1, h2, _⟩ := ra.two
      obtain ⟨q, t, a, o, rfl, rfl, g, hh⟩ := dict_look h1 h2 hk
      cases ht
      rcases hh with ⟨h3, _⟩ | ⟨d', w, h3, rfl, r⟩
      · rw [h3] at e; cases e
      · rw [h3] at e
        cases e
        exact ⟨a, w, rfl, g, ops_same ok k (by cases q <;> exact r)⟩
    · cases e
  · cases e
theorem at_inD {neg : Bool} : OpAt G (rOf G.K G.w (.inD neg)) (opv (.inD neg)) := by
  intro H z τs ds vs m d Q ra e
  simp only [opv] at e
  split at e
  · split at e
    · rename_i hk
      cases e
      obtain ⟨_, _, v1, v2, _, _, _, rfl, h1, h2, _⟩ := ra.two
      obtain ⟨q, t, a, o, rfl, rfl, g, hh⟩ := dict_look h2 h1 hk
      refine ⟨_, rfl, fun q => ⟨a, o, rfl, g, ?_⟩⟩
      have : o.isSome = (dlook ‹List (D × D)› ‹D›).isSome := by
        rcases hh with ⟨h3, rfl⟩ | ⟨d', w, h3, rfl, _⟩ <;> rw [h3] <;> rfl
      rw [this]
      cases neg with
      | true => simpa using q
      | false => simpa using q
    · cases e
  · cases e
theorem ops_dget1 : ∀ {τs τ}, opT .dget1 τs = some τ → OpS G.F (rOf G.K G.w .dget1) τs τ (opv .dget1) := by
  intro τs τ ht H z mv ds vs d Q ra ok e k
  simp only [opv] at e
  split at e
  · split at e
    · rename_i hk
      obtain ⟨t1, t2, v1, v2, _, _, rfl, rfl, h1, h2, _⟩ := ra.two
      obtain ⟨q, t, a, o, rfl, rfl, g, hh⟩ := dict_look h1 h2 hk
      cases ht
      cases e
      refine ⟨a, v2, o, rfl, g, ?_⟩
      rcases hh with ⟨h3, rfl⟩ | ⟨d', w, h3, rfl, r⟩
      · rw [h3] at k
        exact ops_same ok k (Rp.atom rfl)
      · rw [h3] at k
        exact ops_same ok k (by cases q <;> exact r)
    · cases e
  · cases e
theorem ops_dget2 : ∀ {τs τ}, opT .dget2 τs = some τ → OpS G.F (rOf G.K G.w .dget2) τs τ (opv .dget2) := by
  intro τs τ ht H z mv ds vs d Q ra ok e k
  simp only [opv] at e
  split at e
  · split at e
    · rename_i hk
      obtain ⟨t1, t2, t3, v1, v2, v3, _, _, _, rfl, rfl, h1, h2, h4, _⟩ := ra.three
      obtain ⟨q, t, a, o, rfl, rfl, g, hh⟩ := dict_look h1 h2 hk
      cases e
      obtain ⟨s1, s2⟩ := lubT_inv (show lubT _ _ = some _ from ht)
      rw [ch_rd] at s1
      refine ⟨a, v2, v3, o, rfl, g, ?_⟩
      rcases hh with ⟨h3, rfl⟩ | ⟨d', w, h3, rfl, r⟩
      · rw [h3] at k
        exact ops_same ok k (RL.co0 h4.rdd s2)
      · rw [h3] at k
        exact ops_same ok k (RL.co0 r s1)
    · cases e
  · cases e
theorem RL.noDs_of : ∀ {xs : List D}, (∀ d ∈ xs, noD d = true) → noDs xs = true
  | [], _ => rfl
  | x :: l, h => by show (noD x && noDs l) = true; rw [h x (by simp), RL.noDs_of fun d hd => h d (by simp [hd])]; rfl
end En

set_option Elab.async false
set_option linter.all false
set_option autoImplicit false
set_option maxRecDepth 100000
namespace En
open PySem PySem.Spec PyProof.Rows L2 RZ
variable {G : Gx} {W : WX} {H H' H'' : Hp} {z z' z'' : Addr → Prop} {τ τ' : Ty} {d : D} {v : V} {ds : List D} {vs : List V} {m m' m1 m2 m0 : Ow} {τs : List Ty} {Γ Γ1 Γ2 : TyEnv} {fz : Bool}

/-! ## what is walked, by its expression -/
/-- the type in which a thing is walked -/
def wkT (fz : Bool) (τ : Ty) : Ty := if fz then fzT τ else rd τ
theorem RL.toZero (h : RL G.F H z τ ds vs m) (n : τ.no = true) : RL G.F H z τ ds vs fun _ => 0 := h.eqm fun b => (h.no n b).symm
theorem wk_no (fz : Bool) (τ : Ty) : (wkT fz τ).no = true := by
  induction τ with
  | I => cases fz <;> rfl
  | N q t ih =>
    cases fz with
    | true => exact ih
    | false =>
      cases q <;> exact ih
theorem wk_ok (fz : Bool) (τ : Ty) : okT fz (wkT fz τ) = true := by
  cases fz with
  | false => rfl
  | true =>
    induction τ with
    | I => rfl
    | N q t ih =>
      have : (fzT t).st = true := by simpa [okT, wkT] using ih
      simpa [okT, wkT, fzT, Ty.st] using this
theorem Box.zero {K : Frag} {q : Md} {a : Addr} {o : HO} {w : Prop} (h : Box K H z a o w q m) (n : ∀ b, m b = 0) : Box K H z a o w q fun _ => 0 := by
  have : m = fun _ => 0 := funext n
  subst this
  exact h
theorem EvI.lst {te : TE} {f : Env → Res D} (he : EvE G W te Γ Γ1 (wkT fz τ) f) : EvI G W fz (iList G.K (tSz G.K te)) Γ Γ1 (ch (wkT fz τ)) fun ρ => (f ρ).bind fun d => match d with | .list xs => .ok xs | _ => .bad := by
  intro ρ σ H z m se ok R h
  rw [Res.post_bind] at h
  refine he ρ σ H z m se ok _ (Res.post_mono h (fun d h v H1 z1 m1 mv se1 r1 st1 ex1 sz => ?_) fun _ h => h)
  cases d with
  | list xs =>
    obtain ⟨q, t, a, ws, n0, n1, et, rfl, hb, rl, hm⟩ := Rp.list_inv r1
    have n := r1.no (wk_no fz τ)
    have w0 := wk_ok fz τ
    rw [et] at w0
    have hb0 := Box.zero hb fun b => by have := hm b; have := n b; omega
    have rl0 : RL G.F H1 z1 t xs ws fun _ => 0 := rl.eqm fun b => by have := hm b; have := n b; omega
    have sq : SqL G.K H1 a ws := Box.sqL hb
    rw [et] at h
    exact ⟨a, rfl, ⟨ws, sq⟩, h _ H1 z1 m1 se1 (st1.drop fun _ => Nat.le_add_right _ _) ex1 (wk_list hb0 rl0 w0) (by rw [rl.length]; exact sz a ws (.inl sq))⟩
  | _ => exact h.elim
theorem EvI.tup {te : TE} {f : Env → Res D} (he : EvE G W te Γ Γ1 (wkT fz τ) f) : EvI G W fz (iTup G.K (tSz G.K te)) Γ Γ1 (wkT fz τ) fun ρ => (f ρ).bind fun d => match d with | .tuple xs => .ok xs | _ => .bad := by
  intro ρ σ H z m se ok R h
  rw [Res.post_bind] at h
  refine he ρ σ H z m se ok _ (Res.post_mono h (fun d h v H1 z1 m1 mv se1 r1 st1 ex1 sz => ?_) fun _ h => h)
  cases d with
  | tuple xs =>
    obtain ⟨a, ws, rfl, sq, rl⟩ := Rp.tup_inv r1
    exact ⟨a, rfl, ⟨ws, sq⟩, h _ H1 z1 m1 se1 (st1.drop fun _ => Nat.le_add_right _ _) ex1 (wk_tup sq (rl.toZero (wk_no fz τ)) (wk_ok fz τ)) (by rw [rl.length]; exact sz a ws (.inr sq))⟩
  | _ => exact h.elim
theorem EvI.enum {te : TE} {f : Env → Res D} (he : EvE G W te Γ Γ1 (wkT fz τ) f) : EvI G W fz (iEnum G.K (tCons (tSz G.K te) tNil)) Γ Γ1 (ch (wkT fz τ)) fun ρ => (f ρ).bind fun d => match d with | .list xs => .ok (enumD xs) | _ => .bad := by
  intro ρ σ H z m se ok R h
  rw [Res.post_bind] at h
  refine he ρ σ H z m se ok _ (Res.post_mono h (fun d h v H1 z1 m1 mv se1 r1 st1 ex1 sz => ?_) fun _ h => h)
  cases d with
  | list xs =>
    obtain ⟨q, t, a, ws, n0, n1, et, rfl, hb, rl, hm⟩ := Rp.list_inv r1
    have n := r1.no (wk_no fz τ)
    have w0 := wk_ok fz τ
    rw [et] at w0
    have hb0 := Box.zero hb fun b => by have := hm b; have := n b; omega
    have rl0 : RL G.F H1 z1 t xs ws fun _ => 0 := rl.eqm fun b => by have := hm b; have := n b; omega
    have sq : SqL G.K H1 a ws := Box.sqL hb
    rw [et] at h
    exact ⟨a, ws, rfl, sq, h _ H1 z1 m1 se1 (st1.drop fun _ => Nat.le_add_right _ _) ex1 (wk_enum hb0 rl0 w0) (by simp only [enumD, List.length_map, List.length_zipIdx]; rw [rl.length]; exact sz a ws (.inl sq))⟩
  | _ => exact h.elim
theorem post_two {α : Type} {f g : Env → Res D} {ρ : Env} {k : List D → Option α} {k2 : α → Res (List D)} {Q : List D → Prop} {E : Exc → Prop}
    (h : ((((f ρ).bind fun d => ((g ρ).bind fun e => (Res.ok []).bind fun ds => .ok (e :: ds) : Res (List D)).bind fun ds => .ok (d :: ds) : Res (List D))).bind fun ds => (Res.of (k ds)).bind k2).post Q E) :
    (f ρ).post (fun d => (g ρ).post (fun e => ∃ a, k [d, e] = some a ∧ (k2 a).post Q E) E) E := by
  rw [Res.post_bind, Res.post_bind] at h
  refine Res.post_mono h (fun d h => ?_) fun _ h => h
  rw [Res.post_bind, Res.post_bind] at h
  refine Res.post_mono h (fun e h => ?_) fun _ h => h
  simp only [Res.bind_ok, Res.post_ok] at h
  rw [Res.post_bind, Res.post_of] at h
  exact h
/-- two lists -/
theorem EvI.zipL {ta tb : TE} {f g : Env → Res D} {t1 t2 u : Ty} (ha : EvE G W ta Γ Γ1 (wkT fz t1) f) (hb : EvE G W tb Γ1 Γ2 (wkT fz t2) g) (hu : lubT (ch (wkT fz t1)) (ch (wkT fz t2)) = some u) :
    EvI G W fz (iZipA G.K (tCons ta (tCons (tSz G.K tb) tNil))) Γ Γ2 u fun ρ => (((f ρ).bind fun d => ((g ρ).bind fun e => (Res.ok []).bind fun ds => .ok (e :: ds) : Res (List D)).bind fun ds => .ok (d :: ds) : Res (List D))).bind fun ds => (Res.of (listsOf ds)).bind fun xss => .ok (zipD xss) := by
  intro ρ σ H z m se ok R h
  refine ha ρ σ H z m se ok _ (Res.post_mono (post_two h) (fun d h v H1 z1 m1 mv se1 r1 st1 ex1 => ?_) fun _ h => h)
  refine hb ρ σ H1 z1 m1 se1 (st1.ok.drop fun _ => Nat.le_add_right _ _) _ (Res.post_mono h (fun e h v' H2 z2 m2 mw se2 r2 st2 ex2 sz => ?_) fun _ h => h.ext ex1)
  obtain ⟨xss, hx, h⟩ := h
  simp only [Res.post_ok] at h
  have st : Stp H z m H2 z2 m2 := (st1.drop fun _ => Nat.le_add_right _ _).trans (st2.drop fun _ => Nat.le_add_right _ _)
  have r1' : Rp G.F H2 z2 (wkT fz t1) d v fun _ => 0 := (r1.toZero (wk_no fz t1)).ext ex2 st2.zz
  have r2' : Rp G.F H2 z2 (wkT fz t2) e v' fun _ => 0 := r2.toZero (wk_no fz t2)
  obtain ⟨s1, s2⟩ := lubT_inv hu
  cases d with
  | list xs =>
    cases e with
    | list ys =>
      cases hx
      obtain ⟨q, t, a, ws, n0, n1, et, rfl, hb1, rl, hm⟩ := Rp.list_inv r1'
      obtain ⟨q', t', a', ws', n0', n1', et', rfl, hb2, rl', hm'⟩ := Rp.list_inv r2'
      have w0 := wk_ok fz t1
      have w0' := wk_ok fz t2
      rw [et] at w0 s1
      rw [et'] at w0' s2
      have b1 := Box.zero hb1 fun b => by have := hm b; omega
      have b2 := Box.zero hb2 fun b => by have := hm' b; omega
      have l1 : RL G.F H2 z2 t xs ws fun _ => 0 := rl.eqm fun b => by have := hm b; omega
      have l2 : RL G.F H2 z2 t' ys ws' fun _ => 0 := rl'.eqm fun b => by have := hm' b; omega
      have sq1 : SqL G.K H2 a ws := Box.sqL b1
      have sq2 : SqL G.K H2 a' ws' := Box.sqL b2
      refine ⟨a, a', ws, ws', rfl, .inl ⟨sq1, sq2, h _ H2 z2 m2 se2 st (ex1.trans ex2) (wk_zip b1 l1 w0 b2 l2 w0' s1 s2) ?_⟩⟩
      have := sz a ws (.inl sq1)
      have := l1.length
      simp only [zipD, List.length_map, List.length_zip]
      omega
    | _ => cases hx
  | _ => cases hx
theorem EvI.zipT {ta tb : TE} {f g : Env → Res D} {t1 t2 u : Ty} (ha : EvE G W ta Γ Γ1 (wkT fz t1) f) (hb : EvE G W tb Γ1 Γ2 (wkT fz t2) g) (hu : lubT (wkT fz t1) (wkT fz t2) = some u) :
    EvI G W fz (iZipA G.K (tCons ta (tCons (tSz G.K tb) tNil))) Γ Γ2 u fun ρ => (((f ρ).bind fun d => ((g ρ).bind fun e => (Res.ok []).bind fun ds => .ok (e :: ds) : Res (List D)).bind fun ds => .ok (d :: ds) : Res (List D))).bind fun ds => (Res.of (tupsOf ds)).bind fun xss => .ok (zipD xss) := by
  intro ρ σ H z m se ok R h
  refine ha ρ σ H z m se ok _ (Res.post_mono (post_two h) (fun d h v H1 z1 m1 mv se1 r1 st1 ex1 => ?_) fun _ h => h)
  refine hb ρ σ H1 z1 m1 se1 (st1.ok.drop fun _ => Nat.le_add_right _ _) _ (Res.post_mono h (fun e h v' H2 z2 m2 mw se2 r2 st2 ex2 sz => ?_) fun _ h => h.ext ex1)
  obtain ⟨xss, hx, h⟩ := h
  simp only [Res.post_ok] at h
  have st : Stp H z m H2 z2 m2 := (st1.drop fun _ => Nat.le_add_right _ _).trans (st2.drop fun _ => Nat.le_add_right _ _)
  have r1' : Rp G.F H2 z2 (wkT fz t1) d v fun _ => 0 := (r1.toZero (wk_no fz t1)).ext ex2 st2.zz
  have r2' : Rp G.F H2 z2 (wkT fz t2) e v' fun _ => 0 := r2.toZero (wk_no fz t2)
  obtain ⟨s1, s2⟩ := lubT_inv hu
  cases d with
  | tuple xs =>
    cases e with
    | tuple ys =>
      cases hx
      obtain ⟨a, ws, rfl, sq1, l1⟩ := Rp.tup_inv r1'
      obtain ⟨a', ws', rfl, sq2, l2⟩ := Rp.tup_inv r2'
      refine ⟨a, a', ws, ws', rfl, .inr ⟨sq1, sq2, h _ H2 z2 m2 se2 st (ex1.trans ex2) (wk_zipT sq1 l1 (wk_ok fz t1) sq2 l2 (wk_ok fz t2) s1 s2) ?_⟩⟩
      have := sz a ws (.inr sq1)
      have := l1.length
      simp only [zipD, List.length_map, List.length_zip]
      omega
    | _ => cases hx
  | _ => cases hx
/-! ### range -/
theorem rangeD_get {a b c : Int} : rangeD a b c = (List.range (rgN a b c)).map fun i => PyData.int (a + (i : Nat) * c) := rfl
theorem rg_small {a b c : Int} (h : rgOk a b c = true) : rgN a b c ≤ sizeLine := by
  unfold rgOk at h
  simp only [Bool.and_eq_true, decide_eq_true_eq] at h
  have := h.2
  rw [sizeLine_eq]
  omega
theorem EvI.rng1 {te : TE} {f : Env → Res D} (he : EvE G W te Γ Γ1 τ f) : EvI G W fz (iRng1 (tCons te tNil)) Γ Γ1 .I fun ρ => ((f ρ).bind fun d => (Res.ok []).bind fun ds => .ok (d :: ds) : Res (List D)).bind fun ds => match ds with
    | [.int b] => if rgOk 0 b 1 then .ok (rangeD 0 b 1) else .bad
    | [.int a, .int b] => if rgOk a b 1 then .ok (rangeD a b 1) else .bad
    | [.int a, .int b, .int s] => if rgOk a b s then .ok (rangeD a b s) else .bad
    | _ => .bad := by
  intro ρ σ H z m se ok R h
  rw [Res.post_bind, Res.post_bind] at h
  refine he ρ σ H z m se ok _ (Res.post_mono h (fun d h v H1 z1 m1 mv se1 r1 st1 ex1 => ?_) fun _ h => h)
  simp only [Res.bind_ok, Res.post_ok] at h
  cases d with
  | int b =>
    simp only at h
    by_cases hr : rgOk 0 b 1 = true
    · rw [if_pos hr] at h
      obtain rfl := Rp.int_inv r1
      have q := rgOk_one hr
      refine ⟨b, rfl, q.2.2.1, q.2.2.2.1, h _ H1 z1 m1 se1 (st1.drop fun _ => Nat.le_add_right _ _) ex1 ?_ ?_⟩
      · have w := wk_rng (G := G) (fz := fz) (lo := 0) (c := 1) (n := b.toNat) (H := H1) (z := z1)
        have e : rangeD 0 b 1 = (List.range b.toNat).map fun i => PyData.int (0 + (i : Nat) * 1) := by rw [rangeD_get, rgN_one]; simp
        rw [e]
        intro i Hc zc rc
        have := w i Hc zc rc
        simpa [Itr, Itc] using this
      · have := rg_small hr
        simpa [rangeD] using this
    · rw [if_neg hr] at h
      exact h.elim
  | _ => exact h.elim
theorem EvI.rng2 {te tb : TE} {f g : Env → Res D} (he : EvE G W te Γ Γ1 τ f) (hb : EvE G W tb Γ1 Γ2 τ' g) : EvI G W fz (iRng2 (tCons te (tCons tb tNil))) Γ Γ2 .I fun ρ => ((f ρ).bind fun d => ((g ρ).bind fun d => (Res.ok []).bind fun ds => .ok (d :: ds) : Res (List D)).bind fun ds => .ok (d :: ds) : Res (List D)).bind fun ds => match ds with
    | [.int b] => if rgOk 0 b 1 then .ok (rangeD 0 b 1) else .bad
    | [.int a, .int b] => if rgOk a b 1 then .ok (rangeD a b 1) else .bad
    | [.int a, .int b, .int s] => if rgOk a b s then .ok (rangeD a b s) else .bad
    | _ => .bad := by
  intro ρ σ H z m se ok R h
  rw [Res.post_bind, Res.post_bind] at h
  refine he ρ σ H z m se ok _ (Res.post_mono h (fun d h v H1 z1 m1 mv se1 r1 st1 ex1 => ?_) fun _ h => h)
  rw [Res.post_bind, Res.post_bind] at h
  refine hb ρ σ H1 z1 m1 se1 (st1.ok.drop fun _ => Nat.le_add_right _ _) _ (Res.post_mono h (fun e h v' H2 z2 m2 mw se2 r2 st2 ex2 => ?_) fun _ h => h.ext ex1)
  simp only [Res.bind_ok, Res.post_ok] at h
  cases d with
  | int a =>
    cases e with
    | int b =>
      simp only at h
      by_cases hr : rgOk a b 1 = true
      · rw [if_pos hr] at h
        obtain rfl := Rp.int_inv r1
        obtain rfl := Rp.int_inv r2
        have q := rgOk_one hr
        refine ⟨a, b, rfl, ⟨q.1, q.2.1, q.2.2.1, q.2.2.2.1⟩, h _ H2 z2 m2 se2 ((st1.drop fun _ => Nat.le_add_right _ _).trans (st2.drop fun _ => Nat.le_add_right _ _)) (ex1.trans ex2) ?_ ?_⟩
        · have w := wk_rng (G := G) (fz := fz) (lo := a) (c := 1) (n := (b - a).toNat) (H := H2) (z := z2)
          have e : rangeD a b 1 = (List.range (b - a).toNat).map fun i => PyData.int (a + (i : Nat) * 1) := by rw [rangeD_get, rgN_one]
          rw [e]
          intro i Hc zc rc
          have := w i Hc zc rc
          simpa [Itr, Itc] using this
        · have := rg_small hr
          simpa [rangeD] using this
      · rw [if_neg hr] at h
        exact h.elim
    | _ => exact h.elim
  | _ => exact h.elim
theorem EvI.rng3 {Γ' : TyEnv} {τ'' : Ty} {te tb tc : TE} {f g k : Env → Res D} (he : EvE G W te Γ Γ1 τ f) (hb : EvE G W tb Γ1 Γ2 τ' g) (hc : EvE G W tc Γ2 Γ' τ'' k) (hk : ∀ ρ, k ρ = .ok (.int (-1))) : EvI G W fz (L2.iRng3 (tCons te (tCons tb (tCons tc tNil)))) Γ Γ' .I fun ρ => ((f ρ).bind fun d => ((g ρ).bind fun d => ((k ρ).bind fun d => (Res.ok []).bind fun ds => .ok (d :: ds) : Res (List D)).bind fun ds => .ok (d :: ds) : Res (List D)).bind fun ds => .ok (d :: ds) : Res (List D)).bind fun ds => match ds with
    | [.int b] => if rgOk 0 b 1 then .ok (rangeD 0 b 1) else .bad
    | [.int a, .int b] => if rgOk a b 1 then .ok (rangeD a b 1) else .bad
    | [.int a, .int b, .int s] => if rgOk a b s then .ok (rangeD a b s) else .bad
    | _ => .bad := by
  intro ρ σ H z m se ok R h
  rw [Res.post_bind, Res.post_bind] at h
  refine he ρ σ H z m se ok _ (Res.post_mono h (fun d h v H1 z1 m1 mv se1 r1 st1 ex1 => ?_) fun _ h => h)
  rw [Res.post_bind, Res.post_bind] at h
  refine hb ρ σ H1 z1 m1 se1 (st1.ok.drop fun _ => Nat.le_add_right _ _) _ (Res.post_mono h (fun e h v' H2 z2 m2 mw se2 r2 st2 ex2 => ?_) fun _ h => h.ext ex1)
  rw [hk] at h
  refine hc ρ σ H2 z2 m2 se2 (st2.ok.drop fun _ => Nat.le_add_right _ _) _ ?_
  rw [hk]
  intro v3 H3 z3 m3 mx se3 r3 st3 ex3
  simp only [Res.bind_ok, Res.post_ok] at h
  cases d with
  | int a =>
    cases e with
    | int b =>
      simp only at h
      by_cases hr : rgOk a b (-1) = true
      · rw [if_pos hr] at h
        obtain rfl := Rp.int_inv r1
        obtain rfl := Rp.int_inv r2
        obtain rfl := Rp.int_inv r3
        have q : -(2 ^ 62) ≤ a ∧ a < 2 ^ 62 ∧ -(2 ^ 62) ≤ b ∧ b < 2 ^ 62 := by
          unfold rgOk at hr
          simp only [Bool.and_eq_true, decide_eq_true_eq] at hr
          exact ⟨hr.1.1.1.1.1.1, hr.1.1.1.1.1.2, hr.1.1.1.1.2, hr.1.1.1.2⟩
        have rc := L2.RgC.neg q.1 q.2.1 q.2.2.1 q.2.2.2
        have en : rgN a b (-1) = (a - b).toNat := by
          unfold rgN
          rw [rc.2.2.2]
          rfl
        refine ⟨a, b, -1, (a - b).toNat, rfl, rc, h _ H3 z3 m3 se3 (((st1.drop fun _ => Nat.le_add_right _ _).trans (st2.drop fun _ => Nat.le_add_right _ _)).trans (st3.drop fun _ => Nat.le_add_right _ _)) ((ex1.trans ex2).trans ex3) ?_ ?_⟩
        · rw [rangeD_get, en]
          exact wk_rng (G := G) (fz := fz) (lo := a) (c := -1) (n := (a - b).toNat) (H := H3) (z := z3)
        · have := rg_small hr
          simpa [rangeD] using this
      · rw [if_neg hr] at h
        exact h.elim
    | _ => exact h.elim
  | _ => exact h.elim
end En

set_option Elab.async false
set_option linter.all false
set_option autoImplicit false
set_option maxRecDepth 100000
set_option maxHeartbeats 1000000
namespace En
open PySem PySem.Spec PyProof.Rows L2 RZ

/-! ## zip of three tuples -/
def ItzT3 (K : PySem.W.Frag) (a b c : Addr) : L2.It :=
  ⟨fun i H => ∃ (xs ys zs : List V) (x y z : V), SqT K H a xs ∧ SqT K H b ys ∧ SqT K H c zs ∧ xs[i]? = some x ∧ ys[i]? = some y ∧ zs[i]? = some z,
    fun i H v H' => ∃ T x y z, v = .ref T ∧ H T = none ∧ H' = upd H T (.tup [x, y, z]) ∧ (∀ xs, SqT K H a xs → xs[i]? = some x) ∧ (∀ ys, SqT K H b ys → ys[i]? = some y) ∧ ∀ zs, SqT K H c zs → zs[i]? = some z,
    fun i H => ∃ xs ys zs : List V, SqT K H a xs ∧ SqT K H b ys ∧ SqT K H c zs ∧ i ≤ xs.length ∧ i ≤ ys.length ∧ i ≤ zs.length ∧ (i = xs.length ∨ i = ys.length ∨ i = zs.length)⟩
/-- the cells of the three iterators lie apart -/
structure Apart3 (z TI TO i1 i2 i3 a b c : Addr) : Prop where
  s : ZipSep3 z TI TO i1 i2 i3 [i1, a] [i2, b] [i3, c]
  a1 : a ≠ i1
  b2 : b ≠ i2
  c3 : c ≠ i3
theorem turn_zipT3 {P : Program} {w : World} {K : PySem.W.Frag} {elts : List Expr} {kk : Nat} {tpos : Pos} {a b c z TI TO i1 i2 i3 : Addr} (D : Apart3 z TI TO i1 i2 i3 a b c) :
    Turn P w K (.Tuple elts kk tpos) (ItzT3 K a b c) [z, TI, TO, i1, i2, i3] z (fun i h => IsZip h z TI TO .none ∧ IsTupOf3 h TI (.ref i1) (.ref i2) (.ref i3) ∧ (∃ x y u, IsTupOf3 h TO x y u) ∧ h.IsTupleIter i1 a i ∧ h.IsTupleIter i2 b i ∧ h.IsTupleIter i3 c i) where
  mem := by simp
  obj := fun i h st q hq => by
    obtain ⟨hz, hTI, ⟨x, y, u, hTO⟩, ⟨o1, e1, _, d1⟩, ⟨o2, e2, _, d2⟩, ⟨o3, e3, _, d3⟩⟩ := st
    have e' : q = z ∨ q = TI ∨ q = TO ∨ q = i1 ∨ q = i2 ∨ q = i3 := by simpa using hq
    rcases e' with q | q | q | q | q | q
    · rw [q]; exact ⟨_, hz, fun v q => nomatch q⟩
    · rw [q]; exact ⟨_, hTI, fun v q => nomatch q⟩
    · rw [q]; exact ⟨_, hTO, fun v q => nomatch q⟩
    · rw [q]; exact ⟨o1, e1, fun v q => by rw [d1] at q; cases q⟩
    · rw [q]; exact ⟨o2, e2, fun v q => by rw [d2] at q; cases q⟩
    · rw [q]; exact ⟨o3, e3, fun v q => by rw [d3] at q; cases q⟩
  keep := fun i h h' st k => by
    obtain ⟨hz, hTI, ⟨x, y, u, hTO⟩, h1, h2, h3⟩ := st
    exact ⟨k z (by simp) _ hz, k TI (by simp) _ hTI, ⟨x, y, u, k TO (by simp) _ hTO⟩, h1.at fun o q => k i1 (by simp) o q, h2.at fun o q => k i2 (by simp) o q, h3.at fun o q => k i3 (by simp) o q⟩
  item := by
    intro X hP hw hK hc i pins s σ H E I hf st hg
    subst hP hw hK
    obtain ⟨hz, hTI, ⟨x0, y0, u0, hTO⟩, h1, h2, h3⟩ := st
    obtain ⟨xs, ys, zs, x, y, u, hqx, hqy, hqz, hx, hy, hu⟩ := hg
    obtain ⟨its1, rv1, p1, _⟩ := I.tuple hqx
    obtain ⟨its2, rv2, p2, _⟩ := I.tuple hqy
    obtain ⟨its3, rv3, p3, _⟩ := I.tuple hqz
    obtain ⟨w1, hw1, r1⟩ := rv1.get hx
    obtain ⟨w2, hw2, r2⟩ := rv2.get hy
    obtain ⟨w3, hw3, r3⟩ := rv3.get hu
    have hd := I.ok.hd hc
    have D1 := Draws.tuple (prog := X.prog) (w := X.w) (A := X.A.in1) hd i1 a D.a1 its1.toArray
    have D2 := Draws.tuple (prog := X.prog) (w := X.w) (A := X.A.in1) hd i2 b D.b2 its2.toArray
    have D3 := Draws.tuple (prog := X.prog) (w := X.w) (A := X.A.in1) hd i3 c D.c3 its3.toArray
    have hzl : z < s.heap.objs.size := Heap.lt_size hz
    have lt1 : i < its1.toArray.size := by rw [List.size_toArray]; exact (List.getElem?_eq_some_iff.mp hw1).1
    have lt2 : i < its2.toArray.size := by rw [List.size_toArray]; exact (List.getElem?_eq_some_iff.mp hw2).1
    have lt3 : i < its3.toArray.size := by rw [List.size_toArray]; exact (List.getElem?_eq_some_iff.mp hw3).1
    refine wpAny_pyNext_zipD3_item D.s D1 D2 D3 hz hTI hTO ⟨h1, p1⟩ ⟨h2, p2⟩ ⟨h3, p3⟩ lt1 lt2 lt3 fun y1 y2 y3 h' tk q1 q2 q3 z' TO' h1' h2' h3' hT hsz hk => ?_
    have e1 : y1 = w1 := Option.some.inj (q1.symm.trans (by simpa using hw1))
    have e2 : y2 = w2 := Option.some.inj (q2.symm.trans (by simpa using hw2))
    have e3 : y3 = w3 := Option.some.inj (q3.symm.trans (by simpa using hw3))
    subst e1 e2 e3
    refine ⟨_, rfl, wpAny_letOwnedTupleGo_zip (s := { s with heap := h', toks := tk }) z' fun h'' z'' sb => ?_⟩
    have hT2 : h''.get? s.heap.objs.size = some { cls := .type "tuple", data := .seq #[y1, y2, y3] } := (sb.2 _ (Nat.ne_of_gt hzl)).trans hT
    have new : ObjOk X.prog X.w (upd H s.heap.objs.size (.tup [x, y, u])) h'' s.heap.objs.size (.tup [x, y, u]) :=
      ⟨by show 3 ≤ sizeLine; decide, [y1, y2, y3], .cons r1 (.cons r2 (.cons r3 .nil)), ⟨_, hT2, rfl, _, rfl⟩⟩
    have I1 : Inv X pins σ (upd H s.heap.objs.size (.tup [x, y, u])) { s with heap := h'', toks := tk } :=
      I.turnedNew (t' := tk) (ch := [z, TI, TO, i1, i2, i3]) (fun q o hb e => (sb.2 q (fun q' => hb (by simp [q']))).trans (hk q o (fun q' => hb (by simp [q'])) (fun q' => hb (by simp [q'])) (fun q' => hb (by simp [q'])) (fun q' => hb (by simp [q'])) (fun q' => hb (by simp [q'])) e)) hf (Nat.le_refl _) new
    refine ⟨.ref s.heap.objs.size, _, I1, rfl, ⟨_, x, y, u, rfl, I.hok.fresh (Nat.le_refl _), rfl, fun l hl => by rw [I.tuple_inj hl hqx]; exact hx, fun l hl => by rw [I.tuple_inj hl hqy]; exact hy, fun l hl => by rw [I.tuple_inj hl hqz]; exact hu⟩, ⟨z'', ?_, ⟨y1, y2, y3, ?_⟩, ?_, ?_, ?_⟩, fun q hcm => ?_⟩
    · exact (sb.2 _ D.s.TIz).trans (hk _ _ D.s.TIz D.s.TITO D.s.TIi1 D.s.TIi2 D.s.TIi3 hTI)
    · exact (sb.2 _ D.s.TOz).trans TO'
    · exact h1'.1.at fun o q => (sb.2 _ D.s.zi1.symm).trans q
    · exact h2'.1.at fun o q => (sb.2 _ D.s.zi2.symm).trans q
    · exact h3'.1.at fun o q => (sb.2 _ D.s.zi3.symm).trans q
    · have hlt : q < s.heap.objs.size := by
        have e' : q = z ∨ q = TI ∨ q = TO ∨ q = i1 ∨ q = i2 ∨ q = i3 := by simpa using hcm
        rcases e' with q | q | q | q | q | q
        · rw [q]; exact hzl
        · rw [q]; exact Heap.lt_size hTI
        · rw [q]; exact Heap.lt_size hTO
        · rw [q]; obtain ⟨_, e1, _⟩ := h1; exact Heap.lt_size e1
        · rw [q]; obtain ⟨_, e1, _⟩ := h2; exact Heap.lt_size e1
        · rw [q]; obtain ⟨_, e1, _⟩ := h3; exact Heap.lt_size e1
      rw [upd_ne (Nat.ne_of_lt hlt)]
      exact (hf q hcm).1
  done := by
    intro X hP hw hK hc i pins s σ H E I hf st hg
    subst hP hw hK
    obtain ⟨hz, hTI, ⟨x0, y0, u0, hTO⟩, h1, h2, h3⟩ := st
    obtain ⟨xs, ys, zs, hqx, hqy, hqz, l1, l2, l3, hend⟩ := hg
    obtain ⟨its1, rv1, p1, _⟩ := I.tuple hqx
    obtain ⟨its2, rv2, p2, _⟩ := I.tuple hqy
    obtain ⟨its3, rv3, p3, _⟩ := I.tuple hqz
    have k1 := rv1.length
    have k2 := rv2.length
    have k3 := rv3.length
    have hd := I.ok.hd hc
    have D1 := Draws.tuple (prog := X.prog) (w := X.w) (A := X.A.in1) hd i1 a D.a1 its1.toArray
    have D2 := Draws.tuple (prog := X.prog) (w := X.w) (A := X.A.in1) hd i2 b D.b2 its2.toArray
    have D3 := Draws.tuple (prog := X.prog) (w := X.w) (A := X.A.in1) hd i3 c D.c3 its3.toArray
    refine wpAny_pyNext_zipD3_end D.s D1 D2 D3 hz hTI hTO ⟨h1, p1⟩ ⟨h2, p2⟩ ⟨h3, p3⟩ (by rw [List.size_toArray]; omega) (by rw [List.size_toArray]; omega) (by rw [List.size_toArray]; omega) (by rw [List.size_toArray, List.size_toArray, List.size_toArray]; omega) fun h' tk hk => ⟨rfl, I.turnedL (t' := tk) (ch := [z, TI, TO, i1, i2, i3]) (fun q o hb e =>
      hk q o (fun q' => hb (by simp [q'])) (fun q' => hb (by simp [q'])) (fun q' => hb (by simp [q'])) (fun q' => hb (by simp [q'])) (fun q' => hb (by simp [q'])) e) hf⟩
  self := fun A i s Q E st h => wpAny_pyIter_zip st.1 h
theorem apart3 (n a b c : Nat) (ha : a < n) (hb : b < n) (hc : c < n) : Apart3 (n + 5) (n + 3) (n + 4) n (n + 1) (n + 2) a b c := by
  refine ⟨⟨?_, ?_, ?_, ?_, ?_, ?_, ?_, ?_, ?_, ?_, ?_, ?_, ?_, ?_, ?_, ?_, ?_, ?_, ?_, ?_, ?_⟩, ?_, ?_, ?_⟩ <;> simp <;> first | exact Nat.ne_of_gt (by omega) | exact Nat.ne_of_lt (by omega) | exact ⟨Nat.ne_of_gt (by omega), Nat.ne_of_gt (by omega)⟩
def iZipT3 (K : PySem.W.Frag) (ta : TA) : TI := fun σ H R => ta σ H fun vs H1 => ∃ a b c xs ys zs, vs = [.ref a, .ref b, .ref c] ∧ SqT K H1 a xs ∧ SqT K H1 b ys ∧ SqT K H1 c zs ∧ R (ItzT3 K a b c) H1
theorem zip_get3 {xs ys zs : List D} {i : Nat} {d : D} (h : (zipD [xs, ys, zs])[i]? = some d) : ∃ x y u, xs[i]? = some x ∧ ys[i]? = some y ∧ zs[i]? = some u ∧ d = .tuple [x, y, u] := by
  simp only [zipD, List.getElem?_map, Option.map_eq_some_iff, List.getElem?_zip_eq_some] at h
  obtain ⟨⟨x, y, u⟩, ⟨h1, h2, h3⟩, rfl⟩ := h
  exact ⟨x, y, u, h1, h2, h3, rfl⟩
section
variable {G : Gx} {W : WX} {H H' : Hp} {z : Addr → Prop} {vs ws us : List V} {ds es fs : List D} {t t' t'' u : Ty} {Γ Γ1 Γ2 Γ3 : TyEnv}
theorem co0 {t u : Ty} {d : D} {v : V} (s : sub t u = true) (h : Rp G.F H z t d v fun _ => 0) : Rp G.F H z u d v fun _ => 0 := by
  obtain ⟨m', l, k⟩ := sub_co _ _ s h fun _ => Nat.zero_le _
  exact (k z (fun _ q => q) fun a q => absurd (show 1 ≤ 0 from q) (by decide)).eqm fun b => (Nat.le_zero.mp (l b)).symm
theorem wk_zipT3 {fz : Bool} {a b c : Addr} (hb : SqT G.K H a vs) (r : RL G.F H z t ds vs fun _ => 0) (e : okT fz t = true) (hb' : SqT G.K H b ws) (r' : RL G.F H z t' es ws fun _ => 0) (e' : okT fz t' = true)
    (hb'' : SqT G.K H c us) (r'' : RL G.F H z t'' fs us fun _ => 0) (e'' : okT fz t'' = true) (s1 : sub t u = true) (s2 : sub t' u = true) (s3 : sub t'' u = true) : Wk G fz (ItzT3 G.K a b c) u (zipD [ds, es, fs]) H z := by
  intro i H1 z1 rc
  have sq := rc.sqT hb
  have sq' := rc.sqT hb'
  have sq'' := rc.sqT hb''
  have r1 := RL.rch rc r e
  have r1' := RL.rch rc r' e'
  have r1'' := RL.rch rc r'' e''
  refine ⟨fun d hd => ?_, fun hl => ⟨vs, ws, us, sq, sq', sq'', ?_⟩⟩
  · obtain ⟨x, y, w, hx, hy, hw, rfl⟩ := zip_get3 hd
    obtain ⟨v, h1, h2⟩ := r1.get0 hx
    obtain ⟨v', h1', h2'⟩ := r1'.get0 hy
    obtain ⟨v'', h1'', h2''⟩ := r1''.get0 hw
    refine ⟨⟨vs, ws, us, v, v', v'', sq, sq', sq'', h1, h1', h1''⟩, fun x H2 y => ?_⟩
    obtain ⟨T, x, y, w, rfl, hT, rfl, f1, f2, f3⟩ := y
    have g1 := f1 vs sq
    have g2 := f2 ws sq'
    have g3 := f3 us sq''
    rw [h1] at g1
    rw [h1'] at g2
    rw [h1''] at g3
    cases g1
    cases g2
    cases g3
    exact ⟨.inr ⟨T, _, hT, rfl⟩, Rp.mkT (.inl (.inl upd_same)) (RL.cons' (m1 := fun _ => 0) (m2 := fun _ => 0) ((co0 s1 h2).new hT) (RL.cons' (m1 := fun _ => 0) (m2 := fun _ => 0) ((co0 s2 h2').new hT) ((co0 s3 h2'').new hT) fun _ => rfl) fun _ => rfl)⟩
  · have l1 := r.length
    have l2 := r'.length
    have l3 := r''.length
    simp only [zipD, List.length_map, List.length_zip] at hl
    omega
theorem post_three {α : Type} {f g h : Env → Res D} {ρ : Env} {k : List D → Option α} {k2 : α → Res (List D)} {Q : List D → Prop} {E : Exc → Prop}
    (H : Res.post ((((f ρ).bind fun d => ((g ρ).bind fun d => ((h ρ).bind fun d => (Res.ok []).bind fun ds => .ok (d :: ds) : Res (List D)).bind fun ds => .ok (d :: ds) : Res (List D)).bind fun ds => .ok (d :: ds) : Res (List D))).bind fun ds => (Res.of (k ds)).bind k2) Q E) :
    (f ρ).post (fun d => (g ρ).post (fun e => (h ρ).post (fun w => ∃ x, k [d, e, w] = some x ∧ (k2 x).post Q E) E) E) E := by
  cases e1 : f ρ with
  | ok d =>
    rw [e1] at H
    cases e2 : g ρ with
    | ok e =>
      rw [e2] at H
      cases e3 : h ρ with
      | ok w =>
        rw [e3] at H
        simp only [Res.bind_ok] at H
        cases e4 : k [d, e, w] with
        | some x =>
          rw [e4] at H
          exact ⟨x, e4, H⟩
        | none => rw [e4] at H; exact H.elim
      | ex _ => rw [e3] at H; exact H
      | bad => rw [e3] at H; exact H
    | ex _ => rw [e2] at H; exact H
    | bad => rw [e2] at H; exact H
  | ex _ => rw [e1] at H; exact H
  | bad => rw [e1] at H; exact H
theorem EvI.zipT3 {fz : Bool} {ta tb tc : TE} {f g h : Env → Res D} {t1 t2 t3 u : Ty} (ha : EvE G W ta Γ Γ1 (wkT fz t1) f) (hb : EvE G W tb Γ1 Γ2 (wkT fz t2) g) (hc : EvE G W tc Γ2 Γ3 (wkT fz t3) h) (s1 : sub (wkT fz t1) u = true) (s2 : sub (wkT fz t2) u = true) (s3 : sub (wkT fz t3) u = true) :
    EvI G W fz (iZipT3 G.K (tCons ta (tCons tb (tCons (tSz G.K tc) tNil)))) Γ Γ3 u fun ρ => ((((f ρ).bind fun d => ((g ρ).bind fun d => ((h ρ).bind fun d => (Res.ok []).bind fun ds => .ok (d :: ds) : Res (List D)).bind fun ds => .ok (d :: ds) : Res (List D)).bind fun ds => .ok (d :: ds) : Res (List D)))).bind fun ds => (Res.of (tupsOf ds)).bind fun xss => .ok (zipD xss) := by
  intro ρ σ H z m se ok R hh
  refine ha ρ σ H z m se ok _ (Res.post_mono (post_three hh) (fun d hh v H1 z1 m1 mv se1 r1 st1 ex1 => ?_) fun _ h => h)
  refine hb ρ σ H1 z1 m1 se1 (st1.ok.drop fun _ => Nat.le_add_right _ _) _ (Res.post_mono hh (fun e hh v' H2 z2 m2 mw se2 r2 st2 ex2 => ?_) fun _ h => h.ext ex1)
  have st12 : Stp H z m H2 z2 m2 := (st1.drop fun _ => Nat.le_add_right _ _).trans (st2.drop fun _ => Nat.le_add_right _ _)
  refine hc ρ σ H2 z2 m2 se2 st12.ok _ (Res.post_mono hh (fun w hh v'' H3 z3 m3 mx se3 r3 st3 ex3 sz => ?_) fun _ h => h.ext (ex1.trans ex2))
  obtain ⟨xss, hx, hh⟩ := hh
  simp only [Res.post_ok] at hh
  have st : Stp H z m H3 z3 m3 := st12.trans (st3.drop fun _ => Nat.le_add_right _ _)
  have r1' : Rp G.F H3 z3 (wkT fz t1) d v fun _ => 0 := (r1.toZero (wk_no fz t1)).ext (ex2.trans ex3) fun b q => st3.zz b (st2.zz b q)
  have r2' : Rp G.F H3 z3 (wkT fz t2) e v' fun _ => 0 := (r2.toZero (wk_no fz t2)).ext ex3 st3.zz
  have r3' : Rp G.F H3 z3 (wkT fz t3) w v'' fun _ => 0 := r3.toZero (wk_no fz t3)
  cases d with
  | tuple xs =>
    cases e with
    | tuple ys =>
      cases w with
      | tuple ws =>
        cases hx
        obtain ⟨a, vs, rfl, sq1, l1⟩ := Rp.tup_inv r1'
        obtain ⟨a', vs', rfl, sq2, l2⟩ := Rp.tup_inv r2'
        obtain ⟨a'', vs'', rfl, sq3, l3⟩ := Rp.tup_inv r3'
        refine ⟨a, a', a'', vs, vs', vs'', rfl, sq1, sq2, sq3, hh _ H3 z3 m3 se3 st (ex1.trans (ex2.trans ex3)) (wk_zipT3 sq1 l1 (wk_ok fz t1) sq2 l2 (wk_ok fz t2) sq3 l3 (wk_ok fz t3) s1 s2 s3) ?_⟩
        have := sz a'' vs'' (.inr sq3)
        have := l3.length
        simp only [zipD, List.length_map, List.length_zip]
        omega
      | _ => cases hx
    | _ => cases hx
  | _ => cases hx
end
theorem pi_zipT3 {X : Cx} {e e2 e3 : Expr} {ta : TA} {p pos tpos : Pos} {elts : List Expr} {kk : Nat} (hg : Gl X "zip") (hm : X.mg "zip" = none) (ha : PA X [e, e2, e3] ta)
    (hs : starEach [e, e2, e3] X.env = (false, eval e X.env) :: starEach [e2, e3] X.env) (hpl : (backTo pos (starEach [e2, e3] X.env)).any (·.1) = false) :
    PI X (.Tuple elts kk tpos) (.Call (.Name "zip" p) [e, e2, e3] [] pos) (iZipT3 X.K ta) := by
  refine ⟨fun pins s σ H R I h => ?_⟩
  refine Call_ (ld_blt I hg hm PyProof.Rows.boot_zip (PyProof.Rows.callWith_type1 (thn (ha.run pos pins s σ H _ I h) fun us s1 ⟨vs, H1, I1, r1, q1⟩ => ?_) hs hpl))
  obtain ⟨a, b, c, xs, ys, zs, ex, hqx, hqy, hqz, q⟩ := q1
  subst ex
  cases r1 with
  | cons r rr =>
    cases rr with
    | cons r' rr =>
      cases rr with
      | cons r'' rr =>
        cases rr
        cases r
        cases r'
        cases r''
        obtain ⟨its1, rv1, p1, _⟩ := I1.tuple hqx
        obtain ⟨its2, rv2, p2, _⟩ := I1.tuple hqy
        obtain ⟨its3, rv3, p3, _⟩ := I1.tuple hqz
        obtain ⟨o1, ho1, _⟩ := id p1
        obtain ⟨o2, ho2, _⟩ := id p2
        obtain ⟨o3, ho3, _⟩ := id p3
        have fresh6 : ∀ q, q ∈ [s1.heap.objs.size + 5, s1.heap.objs.size + 3, s1.heap.objs.size + 4, s1.heap.objs.size, s1.heap.objs.size + 1, s1.heap.objs.size + 2] → FpOk X pins H1 q := fun q hcm => by
          have hle : s1.heap.objs.size ≤ q := by
            simp only [List.mem_cons, List.mem_nil_iff, or_false] at hcm
            omega
          exact I1.fpOk hle (I1.hok.fresh hle)
        refine zip_begins3 (begins_tuple a its1.toArray) (begins_tuple b its2.toArray) (begins_tuple c its3.toArray) p1 p2 p3 fun h' hz hTI hTO h1 h2 h3 hsz hk => wpAny_pyIter_zip hz ?_
        have I2 : Inv X pins σ H1 { s1 with heap := h' } := I1.kept (t' := s1.toks) hk
        exact ⟨s1.heap.objs.size + 5, _, _, _, H1, rfl, I2, turn_zipT3 (apart3 s1.heap.objs.size a b c (Heap.lt_size ho1) (Heap.lt_size ho2) (Heap.lt_size ho3)), ⟨hz, hTI, ⟨_, _, _, hTO⟩, ⟨_, h1, rfl, rfl⟩, ⟨_, h2, rfl, rfl⟩, ⟨_, h3, rfl, rfl⟩⟩, fresh6, q⟩
end En

set_option Elab.async false
set_option linter.all false
set_option autoImplicit false
set_option maxRecDepth 100000
set_option maxHeartbeats 1000000
namespace En
open PySem PySem.Spec PyProof.Rows L2 RZ

/-! ## dicts that are walked -/
section
variable {X : Cx} {pins : List (Addr × Obj)} {σ : L2.St} {H : Hp} {s : Shared} {d : Addr} {o : Obj} {u : HO} {rows : List (V × V)}
theorem nr_get {xs : List NE} {vs : List (NestedKey × Addr × Value)} (r : NR xs vs) {i : Nat} {x : NE} (h : xs[i]? = some x) : ∃ y, vs[i]? = some y ∧ x.1 = y.1 ∧ x.2.1 = y.2.1 ∧ RelV x.2.2 y.2.2 := by
  obtain ⟨y, h1, h2⟩ := paired_get r h
  exact ⟨y, h1, h2⟩
theorem rows_of (I : Inv X pins σ H s) (h : H d = some (.frz o u)) (hr : RowsU X.w d u rows) : (d == sysModules) = false ∧ s.heap.get? d = some o ∧ o.ExactDict ∧ rows.length ≤ sizeLine ∧ ∃ (es : Array DictEntry) (ep : Nat), o.data = .dict es ep ∧ es.size = rows.length ∧
    ∀ (i : Nat) (r : V × V), rows[i]? = some r → ∃ en : DictEntry, es[i]? = some en ∧ RelV r.1 en.key ∧ RelV r.2 en.val := by
  rcases hr with ⟨hk, rfl, rfl⟩ | ⟨xs, rfl, rfl⟩
  · obtain ⟨hs, hgd, hx, es, ep, vs, hdt, hsz, kv, hm⟩ := I.frzK h
    obtain ⟨hd, z, _, _⟩ := I.hok d _ h
    refine ⟨hs, hgd, hx, by simpa using z, es, ep, hdt, by simpa using hsz, fun i r hi => ?_⟩
    rw [List.getElem?_map, Option.map_eq_some_iff] at hi
    obtain ⟨⟨k, v⟩, hi, rfl⟩ := hi
    obtain ⟨u, hu, ru⟩ := kv_get kv hi
    obtain ⟨o', es', ep', ho, hx', hd', hk', hp, _⟩ := hm.dictOf
    rw [hgd] at ho
    cases ho
    rw [hdt] at hd'
    cases hd'
    have hlt : i < es.size := by
      have := (List.getElem?_eq_some_iff.mp hi).1
      omega
    refine ⟨es[i], by simp [hlt], ?_⟩
    obtain ⟨e1, e2⟩ := hp.get? (e := es[i]) (by simp [hlt]) hu
    exact ⟨relV_key (show keyIs k es[i].key = true from e1), by rw [e2]; exact ru⟩
  · obtain ⟨hd, ⟨z, hs, nd, vs, r, o', es, ep, ho, hx, hdt, he⟩, _⟩ := I.hok d _ h
    rw [hd] at ho
    cases ho
    have hl : xs.length = vs.length := Paired.length r
    have hes : es.size = vs.length := by rw [← Array.length_toList, he, List.length_map]
    refine ⟨hs, hd, hx, by simpa using z, es, ep, hdt, by rw [List.length_map]; omega, fun i q hi => ?_⟩
    rw [List.getElem?_map, Option.map_eq_some_iff] at hi
    obtain ⟨x, hi, rfl⟩ := hi
    obtain ⟨y, hy, e1, e2, e3⟩ := nr_get r hi
    refine ⟨entN X.w y, by rw [← Array.getElem?_toList, he, List.getElem?_map, hy]; rfl, ?_, e3⟩
    show RelV (V.ref x.2.1) (Value.ref y.2.1)
    rw [e2]
    rfl
end
def Irk (d : Addr) (o : Obj) (u : HO) (rows : List (V × V)) : L2.It :=
  ⟨fun i H => H d = some (.frz o u) ∧ i < rows.length, fun i H x H' => H' = H ∧ ∃ r, rows[i]? = some r ∧ x = r.1, fun i H => H d = some (.frz o u) ∧ rows.length ≤ i⟩
def Iri (d : Addr) (o : Obj) (u : HO) (rows : List (V × V)) : L2.It :=
  ⟨fun i H => H d = some (.frz o u) ∧ i < rows.length, fun i H x H' => ∃ T r, rows[i]? = some r ∧ x = .ref T ∧ H T = none ∧ H' = upd H T (.tup [r.1, r.2]), fun i H => H d = some (.frz o u) ∧ rows.length ≤ i⟩
section
variable {P : Program} {w : World} {K : PySem.W.Frag} {tg : Expr} {d : Addr} {o : Obj} {u : HO} {rows : List (V × V)} {es : Array DictEntry} {ep : Nat}
theorem turn_rk (it : Addr) (hod : o.data = .dict es ep) (hr : RowsU w d u rows) : Turn P w K tg (Irk d o u rows) [it] it (fun i h => h.IsKeyIter it d i rows.length ep) where
  mem := by simp
  obj := fun i h st b hb => by
    have e : b = it := by simpa using hb
    subst e
    obtain ⟨oi, e, c, dd⟩ := st
    exact ⟨oi, e, fun v z => by rw [dd] at z; cases z⟩
  keep := fun i h h' st k => st.at fun oi e => k it (by simp) oi e
  item := by
    intro X hP hw hK hc i pins s σ H E I hf st hg
    subst hP hw hK
    obtain ⟨hd, hi⟩ := hg
    obtain ⟨f0, f1, f2, f3, f4, f5⟩ := hf it (by simp)
    obtain ⟨hs, hgd, hx, _, es', ep', hdt, hsz, ent⟩ := rows_of I hd hr
    obtain ⟨rfl, rfl⟩ := dict_ep hod hdt
    obtain ⟨en, hen, hk, hv⟩ := ent i rows[i] (List.getElem?_eq_getElem hi)
    refine next_key_item st hgd hdt hsz hen fun h' st' sb => ?_
    have I1 : Inv X pins σ H { s with heap := h' } := I.turned (t' := s.toks) (fun b ob hb e => (sb.2 b hb).trans e) f0 f1 f3 f4 f5
    obtain ⟨oi, e, c, dd⟩ := id st'
    exact ⟨en.key, rfl, go_of (s := { s with heap := h' }) e c dd (by decide) ⟨rows[i].1, H, I1, hk, ⟨rfl, rows[i], List.getElem?_eq_getElem hi, rfl⟩, st', fun b hb => (hf b hb).1⟩⟩
  done := by
    intro X hP hw hK hc i pins s σ H E I hf st hg
    subst hP hw hK
    obtain ⟨hd, hi⟩ := hg
    obtain ⟨f0, f1, f2, f3, f4, f5⟩ := hf it (by simp)
    obtain ⟨hs, hgd, hx, _, es', ep', hdt, hsz, ent⟩ := rows_of I hd hr
    obtain ⟨rfl, rfl⟩ := dict_ep hod hdt
    exact next_key_end (I.ok.hd hc) st hgd hdt hsz hi fun h' eb => ⟨rfl, I.turned (t' := s.toks) (fun b ob hb e => eb b ob hb e) f0 f1 f3 f4 f5⟩
  self := fun A i s Q E st h => by
    refine wpAny_pyIter_slot st.typeIs PySem.F.slot_dict_keyiterator_iter (wpAny_call_entry PySem.F.slot_dict_keyiterator_iter st.typeIs PySem.F.entry_dict_keyiterator_iter ?_ (PySem.F.args_dict_keyiterator_iter_1 _))
    show wpAny _ _ (ret (.ref it)) _ _ s
    exact wpAny_pure ⟨_, rfl, "dict_keyiterator", _, st.typeIs, PySem.F.slot_dict_keyiterator_next.lookup, h⟩
theorem turn_ri {elts : List Expr} {kk : Nat} {tpos : Pos} (it : Addr) (hod : o.data = .dict es ep) (hr : RowsU w d u rows) : Turn P w K (.Tuple elts kk tpos) (Iri d o u rows) [it] it (fun i h => ∃ ok ov, IsItemIter h it d i rows.length ep ok ov) where
  mem := by simp
  obj := fun i h st b hb => by
    have e : b = it := by simpa using hb
    subst e
    obtain ⟨ok, ov, e⟩ := st
    exact ⟨_, e, fun v z => nomatch z⟩
  keep := fun i h h' st k => let ⟨ok, ov, e⟩ := st; ⟨ok, ov, k it (by simp) _ e⟩
  item := by
    intro X hP hw hK hc i pins s σ H E I hf st hg
    subst hP hw hK
    obtain ⟨hd, hi⟩ := hg
    obtain ⟨hs, hgd, hx, _, es', ep', hdt, hsz, ent⟩ := rows_of I hd hr
    obtain ⟨rfl, rfl⟩ := dict_ep hod hdt
    obtain ⟨en, hen, hk, hv⟩ := ent i rows[i] (List.getElem?_eq_getElem hi)
    obtain ⟨ok, ov, he⟩ := st
    have hlt : it < s.heap.objs.size := Heap.lt_size he
    have hie : i < es'.size := by omega
    have eget : es'[i] = en := by
      have : es'[i]? = some es'[i] := by simp [hie]
      rw [this] at hen
      exact Option.some.inj hen
    rw [← hsz] at he
    refine DT.nextI he ⟨o, hgd, hx, hdt⟩ hie fun h' ho hT hz hk' => ?_
    rw [eget] at ho hT
    refine ⟨_, rfl, wpAny_letOwnedTupleGo_items (s := { s with heap := h' }) ho fun h'' he' sb => ?_⟩
    have hT2 : h''.get? s.heap.objs.size = some { cls := .type "tuple", data := .seq #[en.key, en.val] } := (sb.2 _ (Nat.ne_of_gt hlt)).trans hT
    have new : ObjOk X.prog X.w (upd H s.heap.objs.size (.tup [rows[i].1, rows[i].2])) h'' s.heap.objs.size (.tup [rows[i].1, rows[i].2]) :=
      ⟨by show 2 ≤ sizeLine; decide, [en.key, en.val], .cons hk (.cons hv .nil), ⟨_, hT2, rfl, _, rfl⟩⟩
    have I1 : Inv X pins σ (upd H s.heap.objs.size (.tup [rows[i].1, rows[i].2])) { s with heap := h'' } :=
      I.turnedNew (t' := s.toks) (ch := [it]) (fun b ob hb e => (sb.2 b (by simpa using hb)).trans (hk' b ob (by simpa using hb) e)) hf (Nat.le_refl _) new
    refine ⟨.ref s.heap.objs.size, _, I1, rfl, ⟨_, rows[i], List.getElem?_eq_getElem hi, rfl, I.hok.fresh (Nat.le_refl _), rfl⟩, ⟨en.key, en.val, ?_⟩, fun b hb => ?_⟩
    · rw [← hsz]; exact he'
    · have e : b = it := by simpa using hb
      rw [e, upd_ne (Nat.ne_of_lt hlt)]
      exact (hf it (by simp)).1
  done := by
    intro X hP hw hK hc i pins s σ H E I hf st hg
    subst hP hw hK
    obtain ⟨hd, hi⟩ := hg
    obtain ⟨f0, f1, f2, f3, f4, f5⟩ := hf it (by simp)
    obtain ⟨hs, hgd, hx, _, es', ep', hdt, hsz, ent⟩ := rows_of I hd hr
    obtain ⟨rfl, rfl⟩ := dict_ep hod hdt
    obtain ⟨ok, ov, he⟩ := st
    rw [← hsz] at he
    exact DT.endI (I.ok.hd hc) he ⟨o, hgd, hx, hdt⟩ (by omega) fun h' eb => ⟨rfl, I.turned (t' := s.toks) (fun b ob hb e => eb b ob hb e) f0 f1 f3 f4 f5⟩
  self := fun A i s Q E st h => let ⟨_, _, e⟩ := st; PySem.W.kcp_self e h
end
/-- the dict in a slot, locked -/
def Lkd (w : World) (i : Nat) (σ : L2.St) (H : Hp) : Prop := ∃ d o u rows, σ[i]? = some (some (V.ref d)) ∧ H d = some (.frz o u) ∧ RowsU w d u rows
def iRow (w : World) (it : Bool) (i : Nat) : TI := fun σ H R => ∃ d o u rows, σ[i]? = some (some (V.ref d)) ∧ H d = some (.frz o u) ∧ RowsU w d u rows ∧ (rows.length ≤ sizeLine → R (if it then Iri d o u rows else Irk d o u rows) H)
section
variable {X : Cx} {tg : Expr} {x : Str} {p apos cpos : Pos} {i : Nat}
theorem pi_rk (he : PE X (.Name x p) (tVar i)) : PI X tg (.Name x p) (iRow X.w false i) := by
  refine ⟨fun pins s σ H R I h => ?_⟩
  obtain ⟨d, o, u, rows, hσ, hd, hr, q⟩ := h
  refine thn (he.run pins s σ H (fun v H1 => v = .ref d ∧ H1 = H) I ⟨_, hσ, rfl, rfl⟩) fun uv s1 ⟨v, H1, I1, rx, ev, eH⟩ => ?_
  subst ev
  rw [eH] at I1
  obtain rfl : uv = Value.ref d := rx
  obtain ⟨hs, hgd, hx, hsl, es, ep, hdt, hsz, _⟩ := rows_of I1 hd hr
  have q := q hsl
  refine iter_keys hs hgd hx hdt (pi_one (tk := s1.toks) I1 _ (turn_rk _ hdt hr) ⟨_, Heap.get?_push_size _ rfl, rfl, ?_⟩ q)
  rw [hsz] <;> rfl
theorem pi_ri {elts : List Expr} {kk : Nat} {tpos : Pos} (he : PE X (.Name x p) (tVar i)) (hline : (apos.endLine == cpos.line) = true) : PI X (.Tuple elts kk tpos) (.Call (.Attribute (.Name x p) "items" apos) [] [] cpos) (iRow X.w true i) := by
  refine ⟨fun pins s σ H R I h => ?_⟩
  obtain ⟨d, o, u, rows, hσ, hd, hr, q⟩ := h
  refine wpAny_Call_method (T := "dict") (id := "dict.items") rfl rfl hline PySem.F.plainAttrs_dict PySem.F.slot_dict_items PySem.F.type_dict_items (thn (he.run pins s σ H (fun v H1 => v = .ref d ∧ H1 = H) I ⟨_, hσ, rfl, rfl⟩) fun uv s1 ⟨v, H1, I1, rx, ev, eH⟩ => ?_)
  subst ev
  rw [eH] at I1
  obtain rfl : uv = Value.ref d := rx
  obtain ⟨hs, hgd, hx, hsl, es, ep, hdt, hsz, _⟩ := rows_of I1 hd hr
  have q := q hsl
  have raw : DT.Raw s1.heap d es ep := ⟨o, hgd, hx, hdt⟩
  refine ⟨raw.typeIs, fun b e => ⟨o, by cases e; exact hgd, hx.2.1⟩, ?_⟩
  have I2 : Inv X pins σ H { s1 with heap := s1.heap.push { cls := .type "dict_items", data := .fields #[.ref d] } } := I1.kept (t' := s1.toks) fun b ob q => Heap.get?_push_of_some _ q
  have fin : wpAny (model X.prog X.w) X.A (pyIter (.ref s1.heap.objs.size)) (PIE X pins σ (.Tuple elts kk tpos) R) X.xe { s1 with heap := s1.heap.push { cls := .type "dict_items", data := .fields #[.ref d] } } := by
    refine DT.iterI (d := d) (es := es) (ep := ep) ⟨_, Heap.get?_push_size _ rfl, rfl, rfl⟩ (raw.push _) (pi_one (tk := s1.toks) I2 _ (turn_ri _ hdt hr) ⟨.none, .none, ?_⟩ q)
    rw [← hsz]
    exact Heap.get?_push_size _ rfl
  show wpAny _ _ (callWith cpos (.builtin "dict.items") [.ref d] [] []) _ X.xe s1
  exact method_meetsIn PySem.F.slot_dict_items PySem.F.entry_dict_items rfl (PySem.evalArgs_none ⟨rfl, raw.typeIs, PySem.F.args_dict_items_1 _, _, DT.meetsItems (es := es) (ep := ep) hs, raw, fin⟩)
end
end En

set_option Elab.async false
set_option linter.all false
set_option autoImplicit false
set_option maxRecDepth 100000
set_option maxHeartbeats 1000000
namespace En
open PySem PySem.Spec PyProof.Rows L2 RZ
variable {G : Gx} {W : WX} {H H' H'' : Hp} {z z' z'' : Addr → Prop} {τ τ' t : Ty} {d : D} {v : V} {ds : List D} {vs : List V} {m m' m1 m2 m0 : Ow} {Γ Γ' Γ1 Γb : TyEnv} {ρ : Env} {σ : L2.St} {τr : Ty} {i : Nat} {a : Addr} {u : HO} {od : Obj}

/-! ## locking -/
theorem lk_rd {b : Addr} {o : HO} (h : Rd H b o) (hd : H a = some u) (mu : Mut (some u)) : Rd (upd H a (.frz od u)) b o := by
  by_cases e : b = a
  · subst e
    rcases h with h | ⟨ob, h⟩
    · rw [hd] at h
      cases h
      exact .inr ⟨od, upd_same⟩
    · rw [hd] at h
      cases h
      exact mu.elim
  · rcases h with h | ⟨ob, h⟩
    · exact .inl ((upd_ne e).trans h)
    · exact .inr ⟨ob, (upd_ne e).trans h⟩
def NF (o : HO) : Prop := ∀ o' u', o ≠ .frz o' u'
theorem ul_rd {b : Addr} {o : HO} (n : NF o) (h : Rd H b o) (hd : H a = some (.frz od u)) : Rd (upd H a u) b o := by
  by_cases e : b = a
  · subst e
    rcases h with h | ⟨ob, h⟩
    · rw [hd] at h
      cases h
      exact absurd rfl (n _ _)
    · rw [hd] at h
      cases h
      exact .inl upd_same
  · rcases h with h | ⟨ob, h⟩
    · exact .inl ((upd_ne e).trans h)
    · exact .inr ⟨ob, (upd_ne e).trans h⟩
theorem Box.move {K : Frag} {q : Md} {b : Addr} {o : HO} {w : Prop} (n : NF o) (h : Box K H z b o w q m) (k1 : ∀ b o, NF o → Rd H b o → Rd H' b o) (k2 : ∀ b o, 1 ≤ m b → H b = some o → H' b = some o) : Box K H' z b o w q m := by
  cases q with
  | o => exact ⟨k2 _ _ (by rw [h.2]; simp [one]) h.1, h.2⟩
  | f => exact ⟨h.1.imp (fun q => ⟨k1 _ _ n q.1, q.2⟩) id, h.2⟩
  | r => exact ⟨h.1.imp (fun q => k1 _ _ n q) id, h.2⟩
theorem SqT.move {K : Frag} {b : Addr} {xs : List V} (h : SqT K H b xs) (k1 : ∀ b o, NF o → Rd H b o → Rd H' b o) : SqT K H' b xs := by
  rcases h with h | h
  · exact .inl (k1 _ _ (fun _ _ e => by cases e) h)
  · exact .inr h
theorem RL.move (h : RL G.F H z τ ds vs m) (k1 : ∀ b o, NF o → Rd H b o → Rd H' b o) (k2 : ∀ b o, 1 ≤ m b → H b = some o → H' b = some o) : RL G.F H' z τ ds vs m := by
  induction h with
  | nil e => exact .nil e
  | cons a b c q ih1 ih2 =>
    rename_i m m0 m1 m2
    have k0 : ∀ b o, 1 ≤ m0 b → H b = some o → H' b = some o := fun b o l e => k2 b o (by have := q b; omega) e
    refine .cons ?_ (ih1 fun b o l e => k2 b o (by have := q b; omega) e) (ih2 fun b o l e => k2 b o (by have := q b; omega) e) q
    cases a with
    | non h => exact .non h
    | bl h => exact .bl h
    | int h => exact .int h
    | str h => exact .str h
    | tup h e => exact .tup (SqT.move h k1) e
    | lst h => exact .lst (h.move (fun _ _ e => by cases e) k1 k0)
    | dk n l h => exact .dk n l (h.move (fun _ _ e => by cases e) k1 k0)
    | dt n k l h => exact .dt n k l (h.move (fun _ _ e => by unfold dctO at e; cases e) k1 k0)
theorem SE.move (h : SE G.F H z Γ ρ σ m) (k1 : ∀ b o, NF o → Rd H b o → Rd H' b o) (k2 : ∀ b o, 1 ≤ m b → H b = some o → H' b = some o) : SE G.F H' z Γ ρ σ m := by
  induction h with
  | nil e => exact .nil e
  | no a ih => exact .no (ih k2)
  | yes a b c ih =>
    exact .yes (RL.move a k1 fun b o l e => k2 b o (by have := c b; omega) e) (ih fun b o l e => k2 b o (by have := c b; omega) e) c
theorem lk_k2 (ok : Ok H z m) (za : z a) : ∀ b o, 1 ≤ m b → H b = some o → (upd H a (.frz od u)) b = some o := fun b o l e => by
  have h1 := ok b
  rw [upd_ne]
  · exact e
  · intro q
    subst q
    exact (h1.2.1 (by omega)).1 za
theorem lk_ok (ok : Ok H z m) (za : z a) : Ok (upd H a (.frz od u)) z m := fun b => by
  have h1 := ok b
  by_cases e : b = a
  · subst e
    refine ⟨h1.1, fun q => absurd za (h1.2.1 q).1, fun _ => by rw [upd_same]; simp⟩
  · rw [upd_ne e]
    exact h1
/-- what is done under the lock, seen from without -/
theorem ul_stp (hd : H a = some u) (ok : Ok H z m) (za : z a) (s : Stp (upd H a (.frz od u)) z m H' z' m') (ha : H' a = some (.frz od u)) : Stp H z m (upd H' a u) z' m' where
  keep := fun b o e l => by
    by_cases q : b = a
    · subst q
      rw [upd_same]
      rw [hd] at e
      exact e
    · rw [upd_ne q]
      exact s.keep b o (by rw [upd_ne q]; exact e) l
  live := fun b e => by
    by_cases q : b = a
    · subst q
      rw [upd_same]
      simp
    · rw [upd_ne q]
      exact s.live b (by rw [upd_ne q]; exact e)
  zz := s.zz
  dec := fun b e => s.dec b (by
    by_cases q : b = a
    · subst q
      rw [upd_same]
      simp
    · rw [upd_ne q]
      exact e)
  ok := fun b => by
    have h1 := s.ok b
    by_cases q : b = a
    · subst q
      refine ⟨h1.1, fun l => absurd (s.zz b za) (h1.2.1 l).1, fun _ => by rw [upd_same]; simp⟩
    · rw [upd_ne q]
      exact h1
theorem ul_k2 (ok : Ok H z m) (za : z a) : ∀ b o, 1 ≤ m b → H b = some o → (upd H a u) b = some o := fun b o l e => by
  have h1 := ok b
  rw [upd_ne]
  · exact e
  · intro q
    subst q
    exact (h1.2.1 (by omega)).1 za
theorem ul_ext (hd : H a = some u) (e : Ext (upd H a (.frz od u)) H') : Ext H (upd H' a u) := fun b o q => by
  by_cases h : b = a
  · subst h
    rw [upd_same]
    rw [hd] at q
    exact q
  · rw [upd_ne h]
    exact e b o (by rw [upd_ne h]; exact q)
/-! ### the rows of a dict -/
theorem RL.fst_im : ∀ {hk : List (Key × V)} , RL G.F H z τ (hk.map fun p => kd p.1) (hk.map fun p => kV p.1) fun _ => 0
  | [] => .nil fun _ => rfl
  | p :: hk => RL.cons0 (Rp.atom (by obtain ⟨k, v⟩ := p; cases k <;> rfl)) RL.fst_im
theorem RL.imm0 (h : RL G.F H z τ ds vs m) : immAll ds = true → ∀ b, m b = 0 := by
  induction h with
  | nil e => exact fun _ => e
  | cons a b c q ih1 ih2 =>
    intro im
    rw [immAll, Bool.and_eq_true] at im
    intro x
    have h2 := ih2 im.2 x
    have hq := q x
    cases a with
    | non h => have := h x; have := ih1 rfl x; omega
    | bl h => have := h x; have := ih1 rfl x; omega
    | int h => have := h x; have := ih1 rfl x; omega
    | str h => have := h x; have := ih1 rfl x; omega
    | tup h e => have := e x; have := ih1 (by simpa [En.imm] using im.1) x; omega
    | lst h => simp [En.imm] at im
    | dk _ _ _ => simp [En.imm] at im
    | dt _ _ _ _ => simp [En.imm] at im
/-- a frozen dict: its rows -/
theorem dict_rows {kvs : List (D × D)} (h : Rp G.F H z (.N .f t) (.dict kvs) v m) : ∃ (a : Addr) (u : HO) (rows : List (V × V)), v = .ref a ∧ Rd H a u ∧ NF u ∧ Mut (some u) ∧ z a ∧ RowsU G.w a u rows ∧ RL G.F H z t (kvs.map (·.1)) (rows.map (·.1)) (fun _ => 0) ∧ immAll (kvs.map (·.1)) = true ∧ RL G.F H z t (kvs.map (·.2)) (rows.map (·.2)) m := by
  obtain ⟨q, t', a, e0, rfl, ks, ds, n0, n1, rfl, hm, hh⟩ := h.dict_two
  cases e0
  have e1 : ∀ l : ks.length = ds.length, (ks.zip ds).map (·.1) = ks := fun l => by rw [show (fun x : D × D => x.1) = Prod.fst from rfl, List.map_fst_zip]; omega
  have e2 : ∀ l : ks.length = ds.length, (ks.zip ds).map (·.2) = ds := fun l => by rw [show (fun x : D × D => x.2) = Prod.snd from rfl, List.map_snd_zip]; omega
  rcases hh with ⟨hk', nd, rfl, hle, hb, rl⟩ | ⟨xs, hne, hkt, hle, hb, rl⟩
  · obtain ⟨hb1, hb2⟩ := hb
    rcases hb1 with ⟨r, za⟩ | hb1
    · refine ⟨a, .dK hk', hk'.map fun p => (kV p.1, p.2), rfl, r, (fun _ _ e => by cases e), trivial, za, .inl ⟨hk', rfl, rfl⟩, ?_, ?_, ?_⟩
      · rw [e1 (by simp [hle]), List.map_map]
        exact RL.fst_im
      · rw [e1 (by simp [hle])]
        clear hle rl e1 e2 hb2 hm h nd r
        induction hk' with
        | nil => rfl
        | cons p hk' ih =>
          rw [List.map_cons, immAll, ih]
          cases p.1 <;> rfl
      · rw [e2 (by simp [hle]), List.map_map]
        exact rl.eqm fun b => by have := hm b; have := hb2 b; omega
    · exact hb1.elim
  · obtain ⟨hb1, hb2⟩ := hb
    rcases hb1 with ⟨r, za⟩ | hb1
    · have hkl := hkt.len
      obtain ⟨p1, p2, r1, r2, r3⟩ := rl.parts (by rw [hkl, List.length_map])
      have im : immAll ks = true := by
        have : ∀ {ks : List D} {xs : List NE}, ks.map nkOf = xs.map (fun x => some x.1) → immAll ks = true := by
          intro ks
          induction ks with
          | nil => intro _ _; rfl
          | cons k ks ih =>
            intro xs h
            cases xs with
            | nil => simp at h
            | cons x xs =>
              simp only [List.map_cons, List.cons.injEq] at h
              rw [immAll, (nk_imm k h.1).1, ih h.2]
              rfl
        exact this hkt.1
      have z0 := (r1.imm im z).ofI t z
      have n0' : ∀ b, p1 b = 0 := r1.imm0 im
      refine ⟨a, dctO G.w a xs, xs.map fun x => (.ref x.2.1, x.2.2), rfl, r, (fun _ _ e => by unfold dctO at e; cases e), trivial, za, .inr ⟨xs, rfl, rfl⟩, ?_, ?_, ?_⟩
      · rw [e1 (by rw [hkl, hle]), List.map_map]
        exact z0
      · rw [e1 (by rw [hkl, hle])]
        exact im
      · rw [e2 (by rw [hkl, hle]), List.map_map]
        exact r2.eqm fun b => by have := hm b; have := hb2 b; have := r3 b; have := n0' b; omega
    · exact hb1.elim

theorem wk_rows {fz it : Bool} {kvs : List (D × D)} {rows : List (V × V)} (hd : H a = some (.frz od u)) (ru : RowsU G.w a u rows) (rk : RL G.F H z t (kvs.map (·.1)) (rows.map (·.1)) fun _ => 0) (im : immAll (kvs.map (·.1)) = true) (rv : RL G.F H z t (kvs.map (·.2)) (rows.map (·.2)) fun _ => 0) (ok : okT fz t = true) :
    Wk G fz (if it then Iri a od u rows else Irk a od u rows) (if it then t else .I) (if it then kvs.map fun p => .tuple [p.1, p.2] else kvs.map (·.1)) H z := by
  intro i H1 z1 rc
  have hd1 : H1 a = some (.frz od u) := rc.2 a _ hd (.inr (.inr fun q => q))
  have len : kvs.length = rows.length := by simpa using rk.length
  have rI : RL G.F H1 z1 .I (kvs.map (·.1)) (rows.map (·.1)) fun _ => 0 := RL.rch rc (rk.imm im z) (by cases fz <;> rfl)
  have rv1 := RL.rch rc rv ok
  cases it with
  | false =>
    refine ⟨fun d hd' => ?_, fun hl => ⟨hd1, by simp at hl; omega⟩⟩
    obtain ⟨v, h1, h2⟩ := rI.get0 hd'
    rw [List.getElem?_map, Option.map_eq_some_iff] at h1
    obtain ⟨r, h1, rfl⟩ := h1
    refine ⟨⟨hd1, (List.getElem?_eq_some_iff.mp h1).1⟩, fun x H2 y => ?_⟩
    obtain ⟨rfl, r', e1, rfl⟩ := y
    rw [h1] at e1
    cases e1
    exact ⟨.inl rfl, h2⟩
  | true =>
    refine ⟨fun d hd' => ?_, fun hl => ⟨hd1, by simp at hl; omega⟩⟩
    simp only [if_true, List.getElem?_map, Option.map_eq_some_iff] at hd'
    obtain ⟨p, hp, rfl⟩ := hd'
    obtain ⟨v, h1, h2⟩ := rI.get0 (show (kvs.map (·.1))[i]? = some p.1 by rw [List.getElem?_map, hp]; rfl)
    obtain ⟨v', h1', h2'⟩ := rv1.get0 (show (kvs.map (·.2))[i]? = some p.2 by rw [List.getElem?_map, hp]; rfl)
    rw [List.getElem?_map, Option.map_eq_some_iff] at h1 h1'
    obtain ⟨r, h1, rfl⟩ := h1
    obtain ⟨r', h1', rfl⟩ := h1'
    rw [h1] at h1'
    cases h1'
    refine ⟨⟨hd1, (List.getElem?_eq_some_iff.mp h1).1⟩, fun x H2 y => ?_⟩
    obtain ⟨T, r', e1, rfl, hT, rfl⟩ := y
    rw [h1] at e1
    cases e1
    exact ⟨.inr ⟨T, _, hT, rfl⟩, Rp.mkT (.inl (.inl upd_same)) (RL.cons0 ((h2.ofI t z1).new hT) (RL.cons0 (h2'.new hT) (.nil fun _ => rfl)))⟩
theorem EvIP.row {fz it : Bool} (hi : Γ[i]? = some (some (.N .f t))) (hn : t.no = true) (ok : okT fz t = true) : EvIP G W (Lkd G.w i) fz (iRow G.w it i) Γ Γ (if it then t else .I) fun ρ => rowsD it (ρ.getD i .none) := by
  intro ρ σ H z m hp se ok' R h
  dsimp only at h
  obtain ⟨d, o, u, _, hσ, hd, _⟩ := hp
  obtain ⟨v, k1, k2, hv, g2, g3, g4⟩ := se.get hi
  rw [hσ] at hv
  cases hv
  cases e : ρ.getD i .none with
  | dict kvs =>
    rw [e] at h g2
    obtain ⟨a, u', rows, ea, hr, nf, mu, za, ru, rk, im, rv⟩ := dict_rows g2
    cases ea
    have eu : u' = u := by
      rcases hr with hr | ⟨ob, hr⟩
      · rw [hd] at hr
        cases hr
        exact absurd rfl (nf _ _)
      · rw [hd] at hr
        cases hr
        rfl
    subst eu
    refine ⟨d, o, u', rows, hσ, hd, ru, fun hl => ?_⟩
    have len : kvs.length = rows.length := by simpa using rk.length
    exact h _ H z m se (Stp.refl ok') Ext.refl (wk_rows hd ru rk im (rv.toZero hn) ok) (by cases it <;> simp <;> omega)
  | _ => rw [e] at h; exact h.elim
def tLkE (t : TE) : TE := fun σ H Q => t σ H Q ∨ tLockE t σ H Q
def tLkS (t : TS) : TS := fun D σ H => t D σ H ∨ tLock t D σ H
theorem pe_lkE {X : Cx} {e : Expr} {t : TE} (h : PE X e t) : PE X e (tLkE t) := ⟨fun pins s σ H Q I w => w.elim (fun w => h.run pins s σ H Q I w) fun w => (pe_lock h).run pins s σ H Q I w⟩
theorem ps_lkS {X : Cx} {e : Stmt} {t : TS} (h : PS X e t) : PS X e (tLkS t) := ⟨fun pins s σ H Q I w => w.elim (fun w => h.run pins s σ H Q I w) fun w => (ps_lock h).run pins s σ H Q I w⟩
/-- a frozen dict in a slot: it is locked, or may be -/
theorem slot_lock {ρ : Env} (se : SE G.F H z Γ ρ σ m) (ok : Ok H z m) (hi : Γ[i]? = some (some (.N .f t))) {kvs : List (D × D)} (e : ρ.getD i .none = .dict kvs) : Lkd G.w i σ H ∨ ∃ (a : Addr) (u : HO), H a = some u ∧ Mut (some u) ∧ z a ∧ ∀ od, Lkd G.w i σ (upd H a (.frz od u)) := by
  obtain ⟨v, k1, k2, hv, g2, g3, g4⟩ := se.get hi
  rw [e] at g2
  obtain ⟨a, u, rows, rfl, hr, nf, mu, za, ru, rk, im, rv⟩ := dict_rows g2
  rcases hr with hr | ⟨ob, hr⟩
  · exact .inr ⟨a, u, hr, mu, za, fun od => ⟨a, od, u, rows, hv, upd_same, ru⟩⟩
  · exact .inl ⟨a, ob, u, rows, hv, hr, ru⟩
theorem EvE.lockE {te : TE} {f : Env → Res D} (hi : Γ[i]? = some (some (.N .f t))) (hb : ∀ ρ, (∀ kvs, ρ.getD i .none ≠ .dict kvs) → f ρ = .bad) (hx : ∀ ρ x, f ρ ≠ .ex x) (h : EvEP G W (Lkd G.w i) te Γ Γ' τ f) : EvE G W (tLkE te) Γ Γ' τ f := by
  intro ρ σ H z m se ok Q hq
  by_cases hd : ∃ kvs, ρ.getD i .none = .dict kvs
  · obtain ⟨kvs, e⟩ := hd
    rcases slot_lock se ok hi e with lk | ⟨a, u, ha, mu, za, lk⟩
    · exact .inl (h ρ σ H z m lk se ok Q hq)
    · refine .inr ⟨a, u, ha, mu, fun od => ?_⟩
      have seL := se.move (H' := upd H a (.frz od u)) (fun b o n r => lk_rd r ha mu) (lk_k2 ok za)
      refine h ρ σ _ z m (lk od) seL (lk_ok ok za) _ ?_
      cases ef : f ρ with
      | ok d =>
        rw [ef] at hq
        intro v H' z' m1 mv se1 r1 st1 ex1
        have ha' : H' a = some (.frz od u) := ex1 _ _ upd_same
        have za' := st1.zz a za
        refine ⟨ha', hq v (upd H' a u) z' m1 mv (se1.move (fun b o n r => ul_rd n r ha') (ul_k2 (st1.ok.drop fun b => Nat.le_add_right _ _) za')) (RL.move r1 (fun b o n r => ul_rd n r ha') (ul_k2 (st1.ok.drop fun b => Nat.le_add_left _ _) za')) (ul_stp ha ok za st1 ha') (ul_ext ha ex1)⟩
      | ex x => exact absurd ef (hx ρ x)
      | bad => rw [ef] at hq; exact hq.elim
  · rw [hb ρ (fun kvs e => hd ⟨kvs, e⟩)] at hq
    exact hq.elim
theorem EvS.lockS {ts : TS} {f : Env → Fl} (hi : Γ[i]? = some (some (.N .f t))) (hb : ∀ ρ, (∀ kvs, ρ.getD i .none ≠ .dict kvs) → f ρ = .bad) (hx : ∀ ρ x, f ρ ≠ .ex x) (h : EvSP G W (Lkd G.w i) ts Γ Γ' Γb τr f) : EvS G W false (tLkS ts) Γ Γ' Γb τr f := by
  intro ρ σ H z m se ok Dn hq
  by_cases hd : ∃ kvs, ρ.getD i .none = .dict kvs
  · obtain ⟨kvs, e⟩ := hd
    rcases slot_lock se ok hi e with lk | ⟨a, u, ha, mu, za, lk⟩
    · exact .inl (h ρ σ H z m lk se ok Dn hq)
    · refine .inr ⟨a, u, ha, mu, fun od => ?_⟩
      have seL := se.move (H' := upd H a (.frz od u)) (fun b o n r => lk_rd r ha mu) (lk_k2 ok za)
      have m0 : m a = 0 := by
        have := (ok a).2.1
        have h1 := (ok a).1
        rcases Nat.lt_or_ge (m a) 1 with h | h
        · omega
        · exact absurd za (this (by omega)).1
      refine h ρ σ _ z m (lk od) seL (lk_ok ok za) _ ?_
      cases ef : f ρ with
      | nx ρ' =>
        rw [ef] at hq
        intro σ' H' z' m' se1 st1
        have ha' : H' a = some (.frz od u) := st1.keep a _ upd_same m0
        have za' := st1.zz a za
        exact ⟨ha', hq σ' (upd H' a u) z' m' (se1.move (fun b o n r => ul_rd n r ha') (ul_k2 st1.ok za')) (ul_stp ha ok za st1 ha')⟩
      | rt d =>
        rw [ef] at hq
        intro v H' z' mv r1 st1
        have ha' : H' a = some (.frz od u) := st1.keep a _ upd_same m0
        have za' := st1.zz a za
        exact ⟨ha', hq v (upd H' a u) z' mv (RL.move r1 (fun b o n r => ul_rd n r ha') (ul_k2 st1.ok za')) (ul_stp ha ok za st1 ha')⟩
      | bk ρ' =>
        rw [ef] at hq
        intro σ' H' z' m' se1 st1
        have ha' : H' a = some (.frz od u) := st1.keep a _ upd_same m0
        have za' := st1.zz a za
        exact ⟨ha', hq σ' (upd H' a u) z' m' (se1.move (fun b o n r => ul_rd n r ha') (ul_k2 st1.ok za')) (ul_stp ha ok za st1 ha')⟩
      | ex x => exact absurd ef (hx ρ x)
      | bad => rw [ef] at hq; exact hq.elim
  · rw [hb ρ (fun kvs e => hd ⟨kvs, e⟩)] at hq
    exact hq.elim
theorem EvSP.noex {Pre : L2.St → Hp → Prop} {ts : TS} {f : Env → Fl} (h : EvSP G W Pre ts Γ Γ' Γb τr f) : EvSP G W Pre ts Γ Γ' Γb τr fun ρ => (f ρ).noex := by
  intro ρ σ H z m hp se ok Dn hq
  refine h ρ σ H z m hp se ok Dn ?_
  dsimp only at hq
  cases e : f ρ with
  | ex x => rw [e] at hq; exact hq.elim
  | _ => rw [e] at hq; exact hq
theorem Fl.noex_ne {r : Fl} {x : Exc} : r.noex ≠ .ex x := by
  cases r <;> exact fun e => nomatch e
theorem lcD_ne {f : D → Res (Option D)} (h : ∀ d x, f d ≠ .ex x) : ∀ ds x, lcD f ds ≠ .ex x
  | [], x => fun e => nomatch e
  | d :: ds, x => by
    show (f d).bind _ ≠ _
    cases e : f d with
    | ok o =>
      show (lcD f ds).bind _ ≠ _
      cases e2 : lcD f ds with
      | ok r => exact fun q => nomatch q
      | ex y => exact absurd e2 (lcD_ne h ds y)
      | bad => exact fun q => nomatch q
    | ex y => exact absurd e (h d y)
    | bad => exact fun q => nomatch q
theorem lcF_ne {tg : Tg} {ρ : Env} {ft : Env → Res Bool} {fe : Env → Res D} : ∀ d x, lcF tg ρ ft fe d ≠ .ex x := fun d x => by
  unfold lcF
  cases setTg tg d ρ with
  | none => exact fun q => nomatch q
  | some ρ' =>
    show (ft ρ').noex.bind _ ≠ _
    cases ft ρ' with
    | ok b =>
      show (if b then (fe ρ').noex.map some else .ok none) ≠ _
      cases b with
      | false => exact fun q => nomatch q
      | true =>
        simp only [if_true]
        cases fe ρ' <;> exact fun q => nomatch q
    | ex y => exact fun q => nomatch q
    | bad => exact fun q => nomatch q
theorem map_ne {α β : Type} {r : Res α} {f : α → β} {x : Exc} (h : ∀ x, r ≠ .ex x) : r.map f ≠ .ex x := by
  cases r with
  | ok a => exact fun q => nomatch q
  | ex y => exact absurd rfl (h y)
  | bad => exact fun q => nomatch q
end En

set_option Elab.async false
set_option linter.all false
set_option autoImplicit false
set_option maxRecDepth 100000
set_option maxHeartbeats 1000000
namespace En
open PySem PySem.Spec PyProof.Rows L2

/-! ## sorted(d) -/
section
variable {X : Cx} {pins : List (Addr × Obj)} {σ : L2.St} {H : Hp} {s : Shared} {d : Addr} {o : Obj} {u : HO} {rows : List (V × V)}
theorem rows_rd (I : Inv X pins σ H s) (h : Rd H d u) (hr : RowsU X.w d u rows) : (d == sysModules) = false ∧ rows.length ≤ sizeLine ∧ ∃ (es : Array DictEntry) (ep : Nat), s.heap.DictRaw d es ep ∧ es.size = rows.length ∧
    ∀ (i : Nat) (r : V × V), rows[i]? = some r → ∃ en : DictEntry, es[i]? = some en ∧ RelV r.1 en.key := by
  rcases hr with ⟨hk, rfl, rfl⟩ | ⟨xs, rfl, rfl⟩
  · obtain ⟨z, lo, vs, rel, dd⟩ := dk_rd I.hok h
    obtain ⟨es, ep, raw, hsz, he⟩ := dd.raw
    have hl : hk.length = vs.length := rel.length
    refine ⟨lo, by simpa using z, es, ep, raw, by rw [hsz, List.length_map, hl], fun i r hi => ?_⟩
    rw [List.getElem?_map, Option.map_eq_some_iff] at hi
    obtain ⟨⟨k, v⟩, hi, rfl⟩ := hi
    obtain ⟨u, hu, ru⟩ := kv_get rel hi
    have hlt : i < es.size := by
      have := (List.getElem?_eq_some_iff.mp hi).1
      omega
    exact ⟨es[i], by simp [hlt], relV_key (show keyIs k es[i].key = true from (he i hlt k u hu).1)⟩
  · obtain ⟨⟨z, hs, nd, vs, r, o', es, ep, ho, hx, hdt, he⟩, _⟩ := (show ObjOk X.prog X.w H s.heap d (dctO X.w d xs) from h.ok I.hok)
    have hl : xs.length = vs.length := Paired.length r
    have hes : es.size = vs.length := by rw [← Array.length_toList, he, List.length_map]
    refine ⟨hs, by simpa using z, es, ep, ⟨o', ho, hx, hdt⟩, by rw [List.length_map]; omega, fun i q hi => ?_⟩
    rw [List.getElem?_map, Option.map_eq_some_iff] at hi
    obtain ⟨x, hi, rfl⟩ := hi
    obtain ⟨y, hy, e1, e2, e3⟩ := nr_get r hi
    refine ⟨entN X.w y, by rw [← Array.getElem?_toList, he, List.getElem?_map, hy]; rfl, ?_⟩
    show RelV (V.ref x.2.1) (Value.ref y.2.1)
    rw [e2]
    rfl
theorem vals_at : ∀ {its : List Value} {xs : List V}, its.length = xs.length → (∀ (i : Nat) (x : V) (u : Value), xs[i]? = some x → its[i]? = some u → RelV x u) → Vals xs its
  | [], [], _, _ => .nil
  | u :: its, x :: xs, hl, h => .cons (h 0 x u rfl rfl) (vals_at (by simpa using hl) fun i x' u' h1 h2 => h (i + 1) x' u' h1 h2)
  | [], _ :: _, hl, _ => by simp at hl
  | _ :: _, [], hl, _ => by simp at hl
theorem call_srtK (hc : X.calm = true) (hr : X.A.units + 64 < cLine) : CallR X (.builtin "sorted") (rSrtK X.K X.w) := by
  intro pins s σ H vs us Q I r h
  obtain ⟨a, u, rows, ds, rfl, hd, hru, hdp, hok, q⟩ := h
  obtain ⟨lo, hsz, es, ep, raw, hes, ent⟩ := rows_rd I hd hru
  rw [Vals.ref1 r]
  refine Calls.call_function_entry PyProof.Rows.kind_sorted PyProof.Rows.plain_sorted PyProof.Rows.entry_sorted (PyProof.Rows.args_sorted1 _) ?_
  unfold Builtin.«sorted»
  refine wpAny_bind (m := checkCount "sorted" 1 1 _) (wpAny_pure ?_)
  refine wpAny_bind (PySem.W.kdu_collect (A := X.A.in1) (PySem.KdlSrc.rawDict (es := es) (ep := ep) lo) (I.ok.hd hc) raw (by rw [hes]; exact hsz) fun h' tk acc hk hacc => ?_)
  have hal : acc.toList.length = rows.length := by rw [Array.length_toList, hacc.1, hes]
  have rv : Vals (rows.map (·.1)) acc.toList := vals_at (by rw [hal, List.length_map]) fun i x v e1 e2 => by
    obtain ⟨hi, ev⟩ := hacc.2 i v (by rw [← Array.getElem?_toList]; exact e2)
    rw [List.getElem?_map, Option.map_eq_some_iff] at e1
    obtain ⟨r, e1, rfl⟩ := e1
    obtain ⟨en, e3, e4⟩ := ent i r e1
    rw [ev]
    have : es[i] = en := by
      rw [Array.getElem?_eq_getElem hi] at e3
      exact Option.some.inj e3
    rw [this]
    exact e4
  have I1 : Inv X pins σ H { s with heap := h', toks := tk } := I.kept hk
  have hlen := hdp.len
  obtain ⟨as, rd⟩ := Dp.readsAll I1 ds (rows.map (·.1)) acc.toList hdp rv
  have hz1 : (ds.zip (rows.map (·.1))).map Prod.fst = ds := by rw [List.map_fst_zip]; omega
  have er : PySem.W.EachIs (fun v (b : PyData × V) => ∃ as, Reads h' v b.1 as) acc.toList (ds.zip (rows.map (·.1))) := PySem.W.readsAll_each (h := h') (β := PyData × V) Prod.fst (as := as) (by rw [hz1]; exact rd)
  have ee := each_vals rv hlen
  unfold En.srtOk at hok
  simp only [Bool.and_eq_true, Bool.or_eq_true, List.all_eq_true, decide_eq_true_eq, En.allAlike] at hok
  obtain ⟨⟨h1, h2⟩, h3⟩ := hok
  have hkk : PySem.W.Sortable ((ds.zip (rows.map (·.1))).map Prod.fst) := by
    rw [hz1]
    rcases h2 with h2 | h2
    · refine .inl fun d hd => ?_
      have := h2 d hd
      unfold En.tupHd at this
      split at this
      · exact ⟨_, _, rfl⟩
      · cases this
    · refine .inr fun d hd => ?_
      have := h2 d hd
      unfold En.othHd at this
      split at this
      · cases this
      · cases this
      · rename_i n1 n2
        exact ⟨fun e => n2 e, fun xs e => n1 xs e⟩
  refine wpAny_bind (wpAny_newList ?_ (by rw [hal]; exact hsz))
  have hoL : (h'.push (seqObj "list" acc.toList.toArray 0)).get? h'.objs.size = some (seqObj "list" acc.toList.toArray 0) := Heap.get?_push_size _ rfl
  show wpAny _ _ _ _ _ { s with heap := h'.push (seqObj "list" acc.toList.toArray 0), toks := tk }
  have er' : PySem.W.EachIs (fun v (b : PyData × V) => ∃ as, Reads (PySem.W.sortingHeap (h'.push (seqObj "list" acc.toList.toArray 0)) h'.objs.size acc.toList) v b.1 as) acc.toList (ds.zip (rows.map (·.1))) :=
    er.mono fun _ _ ⟨as, r⟩ => ⟨as, PyProof.Rows.Reads.keeps (fun b o e => PySem.W.sortingHeap_old (Nat.ne_of_lt (Heap.lt_size e)) (Heap.get?_push_of_some _ e)) r⟩
  refine wpAny_bind (wpAny_holding (wpAny_call_entry PyProof.Rows.slot_list_sort ⟨_, hoL, rfl⟩ PyProof.Rows.entry_list_sort
    (PySem.W.list_sort_vals (κ := PySem.W.dataKind (PySem.W.sortingHeap (h'.push (seqObj "list" acc.toList.toArray 0)) h'.objs.size acc.toList) ((ds.zip (rows.map (·.1))).map Prod.fst)) (s := { s with heap := h'.push (seqObj "list" acc.toList.toArray 0), toks := tk }) hoL
      (PySem.W.SortsAt.data (s := { s with heap := PySem.W.sortingHeap (h'.push (seqObj "list" acc.toList.toArray 0)) h'.objs.size acc.toList, toks := tk }) (PySem.W.each_map (R := fun v d => ∃ as, Reads (PySem.W.sortingHeap (h'.push (seqObj "list" acc.toList.toArray 0)) h'.objs.size acc.toList) v d as) Prod.fst er') (by rw [hz1]; exact h1) hkk (PySem.W.bound_map fun b hb => ?_))
      (by rw [hal]; exact hsz) ⟨_, rfl, ?_⟩)
    (PyProof.Rows.args_list_sort _)))
  · have := h3 b.1 (List.of_mem_zip hb).1
    show X.A.units + 1 + 1 + _ < _
    omega
  · have eo := PySem.W.sortVals_data (h' := PySem.W.sortingHeap (h'.push (seqObj "list" acc.toList.toArray 0)) h'.objs.size acc.toList) false ee er' (by rw [hz1]; exact h1)
    obtain ⟨e', he'⟩ := PyProof.Rows.sortedHeap_at (vs := acc.toList) (out := (PySem.W.sortVals (PySem.W.dataKind (PySem.W.sortingHeap (h'.push (seqObj "list" acc.toList.toArray 0)) h'.objs.size acc.toList) ((ds.zip (rows.map (·.1))).map Prod.fst)) false acc.toList acc.toList).toArray) hoL
    have vv := vals_each eo
    have hlen2 : ((((ds.zip (rows.map (·.1))).mergeSort (PySem.W.dataLe false Prod.fst)).map Prod.snd)).length ≤ sizeLine := by rw [List.length_map, List.length_mergeSort, List.length_zip, List.length_map]; omega
    refine wpAny_pure ⟨_, rfl, .ref h'.objs.size, upd H h'.objs.size (.lst _), I1.laid (t' := tk) (fun b u e => ?_) (Nat.le_refl _) ⟨hlen2, _, e', vv, he'⟩, rfl, q _ (I1.hok.fresh (Nat.le_refl _))⟩
    have hb : b < h'.objs.size := Heap.lt_size e
    rw [PyProof.Rows.sortedHeap_old (Nat.ne_of_lt hb) (by rw [size_push']; exact Nat.lt_succ_of_lt hb)]
    exact Heap.get?_push_of_some _ e
end
variable {G : Gx} {H : Hp} {z : Addr → Prop} {τ : Ty} {d : D} {v : V} {ds : List D} {vs : List V} {m : Ow}
theorem dict_keys {q : Md} {t : Ty} {kvs : List (D × D)} (h : Rp G.F H z (.N q t) (.dict kvs) v m) : ∃ (a : Addr) (u : HO) (rows : List (V × V)), v = .ref a ∧ Rd H a u ∧ RowsU G.w a u rows ∧ RL G.F H z .I (kvs.map (·.1)) (rows.map (·.1)) (fun _ => 0) := by
  obtain ⟨q, t', a, e0, rfl, ks, ds, n0, n1, rfl, hm, hh⟩ := h.dict_two
  cases e0
  have e1 : ∀ l : ks.length = ds.length, (ks.zip ds).map (·.1) = ks := fun l => by rw [show (fun x : D × D => x.1) = Prod.fst from rfl, List.map_fst_zip]; omega
  rcases hh with ⟨hk', nd, rfl, hle, hb, rl⟩ | ⟨xs, hne, hkt, hle, hb, rl⟩
  · refine ⟨a, .dK hk', hk'.map fun p => (kV p.1, p.2), rfl, hb.rdd, .inl ⟨hk', rfl, rfl⟩, ?_⟩
    rw [e1 (by simp [hle]), List.map_map]
    exact RL.fst_im
  · have hkl := hkt.len
    obtain ⟨p1, p2, r1, r2, r3⟩ := rl.parts (by rw [hkl, List.length_map])
    have im : immAll ks = true := by
      have : ∀ {ks : List D} {xs : List NE}, ks.map nkOf = xs.map (fun x => some x.1) → immAll ks = true := by
        intro ks
        induction ks with
        | nil => intro _ _; rfl
        | cons k ks ih =>
          intro xs h
          cases xs with
          | nil => simp at h
          | cons x xs =>
            simp only [List.map_cons, List.cons.injEq] at h
            rw [immAll, (nk_imm k h.1).1, ih h.2]
            rfl
      exact this hkt.1
    refine ⟨a, dctO G.w a xs, xs.map fun x => (.ref x.2.1, x.2.2), rfl, hb.rdd, .inr ⟨xs, rfl, rfl⟩, ?_⟩
    rw [e1 (by rw [hkl, hle]), List.map_map]
    exact r1.imm im z
theorem ops_srtK : ∀ {τs τ}, opT .srtK τs = some τ → OpS G.F (rOf G.K G.w .srtK) τs τ (opv .srtK) := by
  intro τs τ ht H z mv ds vs d Q ra ok e k
  simp only [opv] at e
  split at e
  · split at e
    · rename_i kvs hs
      obtain ⟨t1, v1, _, rfl, rfl, h1, _⟩ := ra.one1
      cases e
      cases ht
      obtain ⟨q, t', a', e0, _⟩ := h1.dict_two
      subst e0
      obtain ⟨a, u, rows, rfl, hd, hru, rl⟩ := dict_keys h1
      have al : noDs (kvs.map (·.1)) = true := by
        unfold srtOk allAlike at hs
        simp only [Bool.and_eq_true, List.all_eq_true, decide_eq_true_eq] at hs
        have h1 : ∀ d ∈ kvs.map (·.1), noD d = true := fun d hd => noD_alike d (hs.1.1 d hd d hd)
        have : ∀ l : List D, (∀ d ∈ l, noD d = true) → noDs l = true := fun l => by
          induction l with
          | nil => exact fun _ => rfl
          | cons x l ih => intro h; show (noD x && noDs l) = true; rw [h x (by simp), ih fun d hd => h d (by simp [hd])]; rfl
        exact this _ h1
      refine ⟨a, u, rows, kvs.map (·.1), rfl, hd, hru, rl.dpn al, hs, ?_⟩
      generalize kvs.map (·.1) = xs at *
      generalize rows.map (·.1) = ws at *
      have hl := rl.length
      have e1 : (xs.zip ws).map Prod.fst = xs := by rw [List.map_fst_zip]; omega
      have e2 : (xs.zip ws).map Prod.snd = ws := by rw [List.map_snd_zip]; omega
      have hm : ((xs.zip ws).mergeSort (W.dataLe false Prod.fst)).map Prod.fst = sortD xs := by
        unfold sortD
        conv => rhs; rw [← e1]
        exact List.map_mergeSort fun a _ b _ => rfl
      have r0 : RL G.F H z .I ((xs.zip ws).map Prod.fst) ((xs.zip ws).map Prod.snd) fun _ => 0 := by rw [e1, e2]; exact rl
      have r1 : RL G.F H z .I (sortD xs) (((xs.zip ws).mergeSort (W.dataLe false Prod.fst)).map Prod.snd) fun _ => 0 := by
        rw [← hm]
        exact RL.mem0.mpr fun p hp => RL.mem0.mp r0 p (List.mem_mergeSort.mp hp)
      exact ops_lst ok k r1
    · cases e
  · cases e
end En

set_option Elab.async false
set_option linter.all false
set_option autoImplicit false
set_option maxRecDepth 100000
set_option maxHeartbeats 1000000
namespace En
open PySem PySem.Spec PyProof.Rows L2 RZ RT
/-! ## list(reversed(a list)) -/
section
variable {prog : Program} {w : World} {A : Around} {E : Value → Shared → Prop} {s : Shared}
theorem call_list_revI {it l : Addr} {items : Array Value} {Q : Value → Shared → Prop} (hh : A.handled = none) (hit : s.heap.IsRevIter it l ((items.size : Int) - 1)) (hl : s.heap.IsList l items) (hne : l ≠ it) (hn : items.size ≤ sizeLine)
    (hQ : ∀ (h' : Heap) (tk : Nat) (acc : Array Value) (c : Nat), (∀ b o, b ≠ it → s.heap.get? b = some o → h'.get? b = some o) → h'.get? s.heap.objs.size = some { cls := .type "list", dict := none, data := .seq acc c, slots := #[] } →
      ItemsOf (fun i v => items[items.size - 1 - i]? = some v) acc items.size → Q (.ref s.heap.objs.size) { s with heap := h', toks := tk }) :
    wpAny (model prog w) A (call (.type "list") [.ref it]) Q E s := by
  refine callType_codes (Q₁ := fun obj s₁ => obj = .ref s.heap.objs.size ∧ s₁ = { s with heap := s.heap.push { cls := .type "list", data := .seq #[] } }) F.called_list (F.typeCall_list_1 _) F.entry_list_init
    (code_list_new _ ⟨rfl, rfl⟩) fun obj s₁ h₁ => ?_
  obtain ⟨rfl, rfl⟩ := h₁
  have hS : (s.heap.push { cls := .type "list", data := .seq #[] }).get? s.heap.objs.size = some { cls := .type "list", data := .seq #[] } := Heap.get?_push_size _ rfl
  refine ⟨⟨_, hS, rfl⟩, F.args_list_init_2 _ _, ?_⟩
  obtain ⟨oi, hoi, _⟩ := id hit
  obtain ⟨ol, hol, _⟩ := id hl
  have hSi : s.heap.objs.size ≠ it := Nat.ne_of_gt (Heap.lt_size hoi)
  have hSl : s.heap.objs.size ≠ l := Nat.ne_of_gt (Heap.lt_size hol)
  have hSf : s.heap.objs.size ∉ [it, l] := by simp only [List.mem_cons, List.not_mem_nil, or_false, not_or]; exact ⟨hSi, hSl⟩
  have W := (Walks.listRev (prog := prog) (w := w) (A := A.in1.in1) hh it l hne items).toS
  show wpAny _ A.in1.in1 (do let old ← Builtin.List.listItems (.ref s.heap.objs.size); Builtin.List.listUpdate (.ref s.heap.objs.size) (fun _ => #[]); letGo old.toList.reverse; Builtin.List.listExtendWith (.ref s.heap.objs.size) (.ref it) .none) _ _ _
  refine wpAny_bind ?_
  unfold Builtin.List.listItems
  refine wpAny_bind (wpAny_seqItems hS rfl (wpAny_pure ?_))
  show wpAny _ A.in1.in1 (updateSeq s.heap.objs.size (fun _ => #[]) >>= fun _ => letGo (#[] : Array Value).toList.reverse >>= fun _ => Builtin.List.listExtendWith (.ref s.heap.objs.size) (.ref it) .none) _ _ _
  refine wpAny_bind (wpAny_updateSeq hS rfl ?_)
  have hS2 := Heap.get?_update_self (Obj.mapSeq (fun _ => (#[] : Array Value))) hS rfl
  refine wpAny_bind (wpAny_letGo ?_)
  have k1 : ∀ b o, s.heap.get? b = some o → (s.heap.push { cls := .type "list", data := .seq #[] }).get? b = some o := fun b o e => Heap.get?_push_of_some _ e
  have k2 : ∀ b o, s.heap.get? b = some o → ((s.heap.push { cls := .type "list", data := .seq #[] }).update s.heap.objs.size (Obj.mapSeq (fun _ => (#[] : Array Value)))).get? b = some o := fun b o e =>
    (Heap.get?_update_other _ _ (Ne.symm (Nat.ne_of_lt (Heap.lt_size e)))).trans (k1 b o e)
  have hit2 : ((s.heap.push { cls := .type "list", data := .seq #[] }).update s.heap.objs.size (Obj.mapSeq (fun _ => (#[] : Array Value)))).IsRevIter it l ((items.size : Int) - 1) := hit.at fun o e => k2 _ _ e
  have hl2 : ((s.heap.push { cls := .type "list", data := .seq #[] }).update s.heap.objs.size (Obj.mapSeq (fun _ => (#[] : Array Value)))).IsList l items := (let ⟨o, ho, r⟩ := hl; ⟨o, k2 _ _ ho, r⟩)
  have hT : ({ s with heap := (s.heap.push { cls := .type "list", data := .seq #[] }).update s.heap.objs.size (Obj.mapSeq (fun _ => (#[] : Array Value))) } : Shared).TypeIs (.ref it) "list_reverseiterator" := Heap.IsRevIter.typeIs (s := { s with heap := _ }) hit2
  have h1 : Builtin.List.listSameRef (.ref s.heap.objs.size) (.ref it) = false := by simp [Builtin.List.listSameRef, hSi]
  unfold Builtin.List.listExtendWith
  refine wpAny_bind (wpAny_typeOf hT ?_)
  rw [if_neg (by rw [h1]; decide)]
  refine wpAny_bind (wpAny_pyIter_revIter (s := { s with heap := _ }) hit2 ?_)
  refine wpAny_bind (wpAny_holding ?_)
  unfold Builtin.List.listLengthHint
  refine wpAny_bind (wpAny_specialOf hT nolen_lri ?_)
  show wpAny _ A.in1.in1 (specialOf (Value.ref it) (Str.ofString "__length_hint__") >>= _) _ _ _
  refine wpAny_bind (wpAny_specialOf hT hint_lri ?_)
  generalize hid : ("list_reverseiterator.__length_hint__" : String) = id0
  wp_delta
  rw [show splitId id0 = some ("list_reverseiterator", "__length_hint__") from by subst hid; decide +kernel]
  subst hid
  refine wpAny_bind (wpAny_isInstance (b := true) hT (by rw [isSubtype_type]; kernel_rfl) ?_)
  refine wpAny_pure ?_
  rw [if_neg (by decide)]
  have e0 : ((items.size : Nat) : Int) - 1 - ((0 : Nat) : Int) = (items.size : Int) - 1 := by omega
  refine wpAny_pure ⟨plainId_quiet F.plain_extend_loop _, codeAny_extend_loopS W hn _ hSf _ items.size 0 _ _ _ rfl (Nat.zero_le _) ⟨Nat.zero_le _, by rw [e0]; exact hit2, hl2⟩ hS2 (ItemsOf.nil _) fun s' acc' c' hm hS' hacc => ?_⟩
  refine ⟨rfl, ?_⟩
  rw [Moved.eq_with hm]
  refine hQ s'.heap s'.toks acc' c' (fun b o hb e => hm.heap b o (fun hmem => ?_) (k2 b o e)) hS' hacc
  rcases List.mem_cons.mp hmem with e' | hmem
  · exact absurd (Heap.lt_size e) (by rw [e']; exact Nat.lt_irrefl _)
  · exact hb (List.mem_singleton.mp hmem)
end
section
variable {X : Cx}
def tLstRev (K : PySem.W.Frag) (te : TE) : TE := fun σ H Q => te σ H fun v H1 => ∃ (a : Addr) (xs : List V), v = .ref a ∧ SqL K H1 a xs ∧ ∀ q, H1 q = none → Q (.ref q) (upd H1 q (.lst xs.reverse))
theorem pe_listRev {e : Expr} {te : TE} {p p2 pos pos2 : Pos} (hc : X.calm = true) (hg : Gl X "list") (hm : X.mg "list" = none) (hg2 : Gl X "reversed") (hm2 : X.mg "reversed" = none) (he : PE X e te)
    (hs : starEach [e] X.env = (false, eval e X.env) :: starEach [] X.env)
    (hs2 : starEach [.Call (.Name "reversed" p2) [e] [] pos2] X.env = (false, eval (.Call (.Name "reversed" p2) [e] [] pos2) X.env) :: starEach [] X.env := by rfl) :
    PE X (.Call (.Name "list" p) [.Call (.Name "reversed" p2) [e] [] pos2] [] pos) (tLstRev X.K te) := by
  refine ⟨fun pins s σ H Q I h => ?_⟩
  refine Call_ (ld_blt I hg hm boot_list (PyProof.Rows.callWith_type1 (args_cons (Call_ (ld_blt I hg2 hm2 PyProof.Rows.boot_reversed (PyProof.Rows.callWith_type1 (args_cons (thn (he.run pins s σ H _ I h) fun u s1 ⟨v, H1, I1, r1, q1⟩ => args_nil ?_) hs) hs rfl))) hs2) hs2 rfl))
  obtain ⟨a, xs, ev, hq, q⟩ := q1
  subst ev
  obtain rfl : u = Value.ref a := r1
  obtain ⟨its, rv, p', hz⟩ := I1.list hq
  refine call_reversed_list p'.isList (args_nil ?_)
  have hl := p'.isList
  obtain ⟨ol, hol, _⟩ := id hl
  have hne : a ≠ s1.heap.objs.size := Nat.ne_of_lt (Heap.lt_size hol)
  have hn : its.toArray.size ≤ sizeLine := by rw [List.size_toArray, ← rv.length]; exact hz
  refine call_list_revI (s := { s1 with heap := s1.heap.push (revObj a ((its.toArray.size : Int) - 1)) }) (I1.ok.hd hc) ⟨_, Heap.get?_push_size _ rfl, rfl, rfl⟩ (hl.push _) hne hn fun h' tk acc c hk hS hi => ?_
  refine ⟨.ref _, upd H1 (s1.heap.push (revObj a ((its.toArray.size : Int) - 1))).objs.size (.lst xs.reverse), I1.laid (t' := tk) (fun b o e => hk b o (Nat.ne_of_lt (Heap.lt_size e)) (Heap.get?_push_of_some _ e)) (by simp [Heap.push]) (show ObjOk X.prog X.w _ h' _ (.lst xs.reverse) from ⟨by rw [List.length_reverse]; exact hz, acc.toList, c, vals_rev rv hi, ?_⟩), rfl, q _ (I1.hok.fresh (by simp [Heap.push]))⟩
  rw [Array.toArray_toList]
  exact hS
end
end En

set_option Elab.async false
set_option linter.all false
set_option autoImplicit false
set_option maxRecDepth 100000
set_option maxHeartbeats 1000000
namespace En
open PySem PySem.Spec PyProof.Rows L2 RZ
variable {G : Gx} {W : WX} {H H' H'' : Hp} {z z' z'' : Addr → Prop} {τ τ' t τi τk τv : Ty} {d : D} {v : V} {ds : List D} {vs : List V} {m m' m1 m2 m0 : Ow} {Γ Γ' Γ1 Γ2 Γl Γb : TyEnv} {ρ : Env} {σ : L2.St} {τr : Ty} {i : Nat} {a : Addr} {u : HO} {od : Obj}
/-! ## the rows of a dict that an expression gives -/
def iRowE (w : World) (te : TE) : TI := fun σ H R => te σ H fun v H1 => ∃ d u rows, v = .ref d ∧ H1 d = some u ∧ Mut (some u) ∧ RowsU w d u rows ∧ (rows.length ≤ sizeLine → ∀ od, R (Iri d od u rows) (upd H1 d (.frz od u)))
theorem pi_rowE {X : Cx} {elts : List Expr} {kk : Nat} {tpos apos cpos : Pos} {e : Expr} {te : TE} (he : PE X e te) (hb : attributeBase e "items" X.env (eval e X.env) = eval e X.env) (hline : (apos.endLine == cpos.line) = true) :
    PI X (.Tuple elts kk tpos) (.Call (.Attribute e "items" apos) [] [] cpos) (iRowE X.w te) := by
  refine ⟨fun pins s σ H R I h => ?_⟩
  refine wpAny_Call_method (T := "dict") (id := "dict.items") hb rfl hline PySem.F.plainAttrs_dict PySem.F.slot_dict_items PySem.F.type_dict_items (thn (he.run pins s σ H _ I h) fun uv s1 ⟨v, H1, I0, rx, d, u, rows, ev, hd0, mu, hr, q⟩ => ?_)
  subst ev
  obtain rfl : uv = Value.ref d := rx
  obtain ⟨o, I1⟩ := I0.lock hd0 mu
  have hd : upd H1 d (.frz o u) d = some (.frz o u) := upd_same
  obtain ⟨hs, hgd, hx, hsl, es, ep, hdt, hsz, _⟩ := rows_of I1 hd hr
  have q := q hsl o
  have raw : DT.Raw s1.heap d es ep := ⟨o, hgd, hx, hdt⟩
  refine ⟨raw.typeIs, fun b e => ⟨o, by cases e; exact hgd, hx.2.1⟩, ?_⟩
  have I2 : Inv X pins σ (upd H1 d (.frz o u)) { s1 with heap := s1.heap.push { cls := .type "dict_items", data := .fields #[.ref d] } } := I1.kept (t' := s1.toks) fun b ob q => Heap.get?_push_of_some _ q
  have fin : wpAny (model X.prog X.w) X.A (pyIter (.ref s1.heap.objs.size)) (PIE X pins σ (.Tuple elts kk tpos) R) X.xe { s1 with heap := s1.heap.push { cls := .type "dict_items", data := .fields #[.ref d] } } := by
    refine DT.iterI (d := d) (es := es) (ep := ep) ⟨_, Heap.get?_push_size _ rfl, rfl, rfl⟩ (raw.push _) (pi_one (tk := s1.toks) I2 _ (turn_ri _ hdt hr) ⟨.none, .none, ?_⟩ q)
    rw [← hsz]
    exact Heap.get?_push_size _ rfl
  show wpAny _ _ (callWith cpos (.builtin "dict.items") [.ref d] [] []) _ X.xe s1
  exact method_meetsIn PySem.F.slot_dict_items PySem.F.entry_dict_items rfl (PySem.evalArgs_none ⟨rfl, raw.typeIs, PySem.F.args_dict_items_1 _, _, DT.meetsItems (es := es) (ep := ep) hs, raw, fin⟩)
theorem Box.own_iz {K : Frag} {o : HO} {w : Prop} (h : Box K H z a o w .o m) : H a = some o ∧ ∀ b, m b = one a b := h
/-- an owned dict: its rows -/
theorem dict_rowsO {kvs : List (D × D)} (h : Rp G.F H z (.N .o t) (.dict kvs) v m) : ∃ (a : Addr) (u : HO) (rows : List (V × V)) (mr : Ow), v = .ref a ∧ H a = some u ∧ Mut (some u) ∧ (∀ b, m b = one a b + mr b) ∧ RowsU G.w a u rows ∧ RL G.F H z t (kvs.map (·.1)) (rows.map (·.1)) (fun _ => 0) ∧ immAll (kvs.map (·.1)) = true ∧ RL G.F H z t (kvs.map (·.2)) (rows.map (·.2)) mr := by
  obtain ⟨q, t', a, e0, rfl, ks, ds, n0, n1, rfl, hm, hh⟩ := h.dict_two
  cases e0
  have e1 : ∀ l : ks.length = ds.length, (ks.zip ds).map (·.1) = ks := fun l => by rw [show (fun x : D × D => x.1) = Prod.fst from rfl, List.map_fst_zip]; omega
  have e2 : ∀ l : ks.length = ds.length, (ks.zip ds).map (·.2) = ds := fun l => by rw [show (fun x : D × D => x.2) = Prod.snd from rfl, List.map_snd_zip]; omega
  rcases hh with ⟨hk', nd, rfl, hle, hb, rl⟩ | ⟨xs, hne, hkt, hle, hb, rl⟩
  · obtain ⟨hH, h0⟩ := Box.own_iz hb
    refine ⟨a, .dK hk', hk'.map fun p => (kV p.1, p.2), n1, rfl, hH, trivial, fun b => by have := hm b; have := h0 b; omega, .inl ⟨hk', rfl, rfl⟩, ?_, ?_, ?_⟩
    · rw [e1 (by simp [hle]), List.map_map]
      exact RL.fst_im
    · rw [e1 (by simp [hle])]
      clear hle rl e1 e2 h0 hm h nd hH hb
      induction hk' with
      | nil => rfl
      | cons p hk' ih =>
        rw [List.map_cons, immAll, ih]
        cases p.1 <;> rfl
    · rw [e2 (by simp [hle]), List.map_map]
      exact rl
  · obtain ⟨hH, h0⟩ := Box.own_iz hb
    have hkl := hkt.len
    obtain ⟨p1, p2, r1, r2, r3⟩ := rl.parts (by rw [hkl, List.length_map])
    have im : immAll ks = true := by
      have : ∀ {ks : List D} {xs : List NE}, ks.map nkOf = xs.map (fun x => some x.1) → immAll ks = true := by
        intro ks
        induction ks with
        | nil => intro _ _; rfl
        | cons k ks ih =>
          intro xs h
          cases xs with
          | nil => simp at h
          | cons x xs =>
            simp only [List.map_cons, List.cons.injEq] at h
            rw [immAll, (nk_imm k h.1).1, ih h.2]
            rfl
      exact this hkt.1
    have z0 := (r1.imm im z).ofI t z
    have n0' : ∀ b, p1 b = 0 := r1.imm0 im
    refine ⟨a, dctO G.w a xs, xs.map fun x => (.ref x.2.1, x.2.2), p2, rfl, hH, trivial, fun b => by have := hm b; have := h0 b; have := r3 b; have := n0' b; omega, .inr ⟨xs, rfl, rfl⟩, ?_, ?_, ?_⟩
    · rw [e1 (by rw [hkl, hle]), List.map_map]
      exact z0
    · rw [e1 (by rw [hkl, hle])]
      exact im
    · rw [e2 (by rw [hkl, hle]), List.map_map]
      exact r2
/-- as EvI, of a heap that may have changed where nothing is kept -/
def EvIK (G : Gx) (W : WX) (fz : Bool) (wi : TI) (Γ Γ' : TyEnv) (τ : Ty) (f : Env → Res (List D)) : Prop :=
  ∀ (ρ : Env) (σ : L2.St) (H : Hp) (z : Addr → Prop) (m : Ow), SE G.F H z Γ ρ σ m → Ok H z m → ∀ R : L2.It → Hp → Prop,
    (f ρ).post (fun ds => ∀ (J : L2.It) (H' : Hp) (z' : Addr → Prop) (m1 : Ow), SE G.F H' z' Γ' ρ σ m1 → Stp H z m H' z' m1 → Wk G fz J τ ds H' z' → ds.length ≤ sizeLine → R J H') (XOk G W σ H) → wi σ H R
theorem EvIK.rowE {fz : Bool} {te : TE} {f : Env → Res D} (he : EvE G W te Γ Γ1 (.N .o t) f) (hn : t.no = true) (ok : okT fz t = true) : EvIK G W fz (iRowE G.w te) Γ Γ1 t fun ρ => (f ρ).bind fun d => rowsD true d := by
  intro ρ σ H z m se ok' R h
  dsimp only at h
  rw [Res.post_bind] at h
  refine he ρ σ H z m se ok' _ (Res.post_mono h (fun d h v H1 z1 m1 mv se1 r1 st1 ex1 => ?_) fun _ h => h)
  cases d with
  | dict kvs =>
    obtain ⟨a, u, rows, mr, rfl, hH, mu, hm, ru, rk, im, rv⟩ := dict_rowsO r1
    refine ⟨a, u, rows, rfl, hH, mu, ru, fun hl od => ?_⟩
    have len : kvs.length = rows.length := by simpa using rk.length
    have ok1 := st1.ok
    have ma : m1 a = 0 := by
      have h1 := (ok1 a).1
      have h2 := hm a
      rw [one_self] at h2
      simp only at h1
      omega
    have k1 : ∀ b o, NF o → Rd H1 b o → Rd (upd H1 a (.frz od u)) b o := fun b o n r => lk_rd r hH mu
    have ne : ∀ b, 1 ≤ m1 b → b ≠ a := fun b l e => by subst e; omega
    refine h _ _ z1 m1 (se1.move k1 fun b o l e => by rw [upd_ne (ne b l)]; exact e) ?_ (wk_rows upd_same ru (RL.move rk k1 fun b o l e => absurd l (by simp)) im (RL.move (rv.toZero hn) k1 fun b o l e => absurd l (by simp)) ok) (by simp; omega)
    refine ⟨fun b o e l => ?_, fun b e => ?_, st1.zz, fun b e => ?_, fun b => ?_⟩
    · have h1 := st1.keep b o e l
      have h2 := st1.dec b (by rw [e]; simp)
      rw [upd_ne]
      · exact h1
      · intro q
        subst q
        have := hm b
        rw [one_self] at this
        omega
    · by_cases q : b = a
      · subst q; rw [upd_same]; simp
      · rw [upd_ne q]; exact st1.live b e
    · obtain ⟨d1, d2⟩ := st1.dec b e
      (try simp only at d1)
      (try simp only at d2)
      exact ⟨by omega, fun l => (d2 l).imp_right fun q => ⟨q.1, by omega⟩⟩
    · have h1 := ok1 b
      simp only at h1
      by_cases q : b = a
      · subst q
        exact ⟨by omega, fun l => by omega, fun _ => by rw [upd_same]; simp⟩
      · rw [upd_ne q]
        refine ⟨by omega, fun l => ?_, h1.2.2⟩
        exact h1.2.1 (by omega)
  | _ => exact h.elim
theorem EvS.forK {wi : TI} {g : TG} {tb : TS} {tg : Tg} {τi : Ty} {fi : Env → Res (List D)} {fb : Env → Fl} {cl : List Nat} {Γe Γk : TyEnv}
    (hi : EvIK G W true wi Γ Γ1 τi fi) (hg : EvG G g tg Γl τi) (hb : EvS G W false tb (tg.ty τi Γl) Γe Γk τr fb) (el : leS Γl (clearT cl Γ1) = true) (ee : leS Γl (clearT cl Γe) = true) (ek : leS Γl (clearT cl Γk) = true) :
    EvS G W false (tFor wi g tb) Γ Γl Γb τr fun ρ => (fi ρ).fl fun ds => forX fb tg cl ds (clear cl ρ) := by
  intro ρ σ H z m se ok Dn h
  try dsimp only at h
  refine hi ρ σ H z m se ok _ (Res.post_mono (post_fl h) (fun ds h J H1 z1 m1 se1 st1 wk hz => ?_) fun _ h => h)
  obtain ⟨m2, se2, l2⟩ := se1.clear cl
  obtain ⟨z3, m3, se3, st3⟩ := se2.sub el (st1.ok.drop l2)
  have stS := (st1.drop l2).trans st3
  refine ⟨fun i k σc Hc => k = ds.length - i ∧ i ≤ ds.length ∧ ∃ (zc : Addr → Prop) (mc : Ow) (ρc : Env), SE G.F Hc zc Γl ρc σc mc ∧ Ok Hc zc mc ∧ Rch true H1 z1 Hc zc ∧ FlP G W false Γl Γb τr Dn σc Hc zc mc (forX fb tg cl (ds.drop i) ρc),
    ⟨ds.length, by simp, Nat.zero_le _, z3, m3, clear cl ρ, se3, st3.ok, ⟨st3.zz, fun _ _ q _ => q⟩, h.step stS⟩, ?_⟩
  rintro i k σc Hc ⟨rfl, hi, zc, mc, ρc, seC, okC, rc, hC⟩
  obtain ⟨wk1, wk2⟩ := wk i Hc zc rc
  by_cases hlt : i < ds.length
  · have hd : ds[i]? = some ds[i] := List.getElem?_eq_getElem hlt
    obtain ⟨go, yl⟩ := wk1 _ hd
    rw [List.drop_eq_getElem_cons hlt] at hC
    cases e : setTg tg ds[i] ρc with
    | none =>
      rw [forX, e] at hC
      exact hC.elim
    | some ρ1 =>
      rw [forX, e, Res.of_some, Res.fl_ok] at hC
      refine .inr ⟨go, fun σn Hn => i + 1 ≤ ds.length ∧ ∃ (zc : Addr → Prop) (mc : Ow) (ρc : Env), SE G.F Hn zc Γl ρc σn mc ∧ Ok Hn zc mc ∧ Rch true H1 z1 Hn zc ∧ FlP G W false Γl Γb τr Dn σn Hn zc mc (forX fb tg cl (ds.drop (i + 1)) ρc),
        fun σn Hn ⟨hn, w⟩ => ⟨ds.length - (i + 1), by omega, rfl, hn, w⟩, fun x H2 y => ?_⟩
      obtain ⟨new, rpx⟩ := yl x H2 y
      have stN : Stp Hc zc mc H2 zc mc ∧ Ext Hc H2 := by
        rcases new with rfl | ⟨p, o, hp, rfl⟩
        · exact ⟨Stp.refl okC, Ext.refl⟩
        · exact ⟨(Stp.refl okC).ext hp, Ext.new hp⟩
      refine hg _ x ρc σc H2 zc mc (fun _ => 0) (seC.ext stN.2 fun _ q => q) rpx ρ1 e _ fun σ2 m2 se2 l2 _ _ _ => ?_
      have st2 : Stp Hc zc mc H2 zc m2 := stN.1.drop fun b => l2 b
      refine hb ρ1 σ2 H2 zc m2 se2 st2.ok _ ?_
      have hC2 := hC.step (σ' := σ2) st2
      refine FlP.nocont hC2 ek fun ρ2 eb σ' H' z' m' se' st' => ⟨hlt, ?_⟩
      rw [eb] at hC2
      obtain ⟨m4, se4, l4⟩ := se'.clear cl
      obtain ⟨z5, m5, se5, st5⟩ := se4.sub ee (st'.ok.drop l4)
      have stT := (st'.drop l4).trans st5
      refine ⟨z5, m5, clear cl ρ2, se5, st5.ok, ?_, hC2.step stT⟩
      exact (rc.step st2 okC).step stT st2.ok
  · have e : ds.length = i := by omega
    refine .inl ⟨wk2 (by omega), ?_⟩
    rw [e.symm, List.drop_length] at hC
    exact hC σc Hc zc mc seC (Stp.refl okC)
/-! ## a dict of one pair -/
theorem EvE.dlit {tk tv : TE} {fk fv : Env → Res D} (hk : EvE G W tk Γ Γ1 τk fk) (hv : EvE G W tv Γ1 Γ2 τ fv) (hst : TyEnv.st Γ2 = true) (hs : τ.st = true) :
    EvE G W (tDisp [(tk, tv)]) Γ Γ2 (.N .o τ) fun ρ => (fk ρ).bind fun k => if keyOk k then (fv ρ).bind fun v => .ok (.dict [(k, v)]) else .bad := by
  intro ρ σ H z m se ok Q h
  dsimp only at h
  rw [Res.post_bind] at h
  intro p hp
  have st0 : Stp H z m (upd H p (.dK [])) z fun b => En.one p b + m b := (Stp.refl ok).own hp trivial
  refine hk ρ σ _ z m (se.new hp) (st0.ok.drop fun b => by (try simp only); omega) _ (Res.post_mono h (fun k h vk H1 z1 m1 mk se1 rk st1 ex1 => ?_) fun _ h => h.ext (Ext.new hp))
  by_cases hkk : keyOk k = true
  case neg => rw [if_neg hkk] at h; exact h.elim
  rw [if_pos hkk, Res.post_bind] at h
  have fr1 := st1.frame (r := En.one p) (st0.ok.eqm fun b => by (try simp only); omega)
  refine hv ρ σ H1 z1 m1 se1 (st1.ok.drop fun b => by (try simp only); omega) _ (Res.post_mono h (fun v h vv H2 z2 m2 mv se2 rv st2 ex2 => ?_) fun _ h => h.ext ((Ext.new hp).trans ex1))
  have fr2 := st2.frame (r := fun b => mk b + En.one p b) (fr1.ok.eqm fun b => by (try simp only); omega)
  have hP : H2 p = some (.dK []) := ex2 _ _ (ex1 _ _ upd_same)
  obtain ⟨kk, rfl⟩ := keyOk_inv hkk
  have ev : vk = kV kk := by
    cases kk with
    | inl i => exact Rp.int_inv rk
    | inr i => exact Rp.str_inv rk
  subst ev
  show tPairs [] σ H2 _
  refine ⟨hP, [(kk, vv)], rfl, by simp, ?_⟩
  have em : mergeK [] [(kk, vv)] = [(kk, vv)] := rfl
  rw [em]
  have okF : Ok H2 z2 fun b => En.one p b + (m2 b + mv b) := fr2.ok.drop fun b => by (try simp only); omega
  have ext : Ext H (upd H2 p (.dK [(kk, vv)])) := fun b o e => by
    rw [upd_ne (ne_of_none e hp)]
    exact ex2 _ _ (ex1 _ _ (by rw [upd_ne (ne_of_none e hp)]; exact e))
  refine h (.ref p) (upd H2 p (.dK [(kk, vv)])) z2 m2 (fun b => En.one p b + mv b) (se2.write hst (okF.drop fun b => by (try simp only); omega) trivial) ?_ ?_ ext
  · refine .cons (.dk (m := En.one p) (hk := [(kk, vv)]) (by simp) (by rfl : [v].length = _) ⟨upd_same, fun _ => rfl⟩) (m1 := mv) (RL.write rv hs (okF.drop fun b => by (try simp only); omega)) (.nil (m := fun _ => 0) fun _ => rfl) fun _ => rfl
  · have tot := (st0.trans (fr1.eqm (m3 := fun b => En.one p b + m b) (m4 := fun b => m1 b + mk b + En.one p b) (fun b => by (try simp only); omega) fun b => by (try simp only))).trans (fr2.eqm (m3 := fun b => m1 b + mk b + En.one p b) (m4 := fun b => m2 b + mv b + mk b + En.one p b) (fun b => by (try simp only); omega) fun b => by (try simp only); omega)
    exact (tot.drop (m1 := fun b => m2 b + (En.one p b + mv b)) fun b => by (try simp only); omega).trans (Stp.write (okF.eqm fun b => by (try simp only); omega) (by have := (okF p).1; have := En.one_self p; (try simp only at *); omega) trivial)
end En

set_option Elab.async false
set_option linter.all false
set_option autoImplicit false
set_option maxRecDepth 100000
namespace En
open PySem PySem.Spec PyProof.Rows L2 RZ

/-! ## the program's text against the small language -/
def gx (X : Cx) : Gx := ⟨X.prog, X.w, X.K, X.mg, X.base, X.N⟩
def blts : List Str := ["len", "range", "list", "tuple", "sorted", "max", "min", "sum", "abs", "int", "all", "isinstance", "zip", "enumerate", "reversed", "str", "dict", "set", "bool", "ValueError"]
structure Good (G : Gx) (lv : Nat) (W : WX) (sc : Scope) (X : Cx) : Prop where
  gx : gx X = G
  sc : X.env.scope = sc
  calm : X.calm = true
  room : Room lv X.A
  tk : Takes X W
  blt : ∀ x ∈ blts, X.mg x = none
  nd : X.N.Nodup
def noStar : Expr → Bool
  | .Starred _ _ => false
  | _ => true
def noSlice : Expr → Bool
  | .Slice _ _ _ _ => false
  | _ => true
theorem star_of {e : Expr} (h : noStar e = true) (es : List Expr) (env : PySem.Env) : starEach (e :: es) env = (false, eval e env) :: starEach es env := by
  cases e <;> first | rfl | cases h
theorem ix_of {e : Expr} (h : noSlice e = true) : PlainIx e := by
  intro o i
  cases e <;> first | rfl | cases h
inductive PEs (X : Cx) : List Expr → List TE → Prop
  | nil : PEs X [] []
  | cons {e t es ts} : noStar e = true → PE X e t → PEs X es ts → PEs X (e :: es) (t :: ts)
def tL : List TE → TA
  | [] => tNil
  | t :: ts => tCons t (tL ts)
theorem PEs.pa {X : Cx} {es : List Expr} {ts : List TE} (h : PEs X es ts) : PA X es (tL ts) := by
  induction h with
  | nil => exact pa_nil
  | cons a b _ ih => exact pa_cons b ih (star_of a _ _)
theorem PEs.plain {X : Cx} {es : List Expr} {ts : List TE} {pos : Pos} (h : PEs X es ts) : (backTo pos (starEach es X.env)).any (·.1) = false := by
  induction h with
  | nil => rfl
  | cons a _ _ ih =>
    rw [star_of a]
    show (false || (backTo pos (starEach _ X.env)).any (·.1)) = false
    rw [ih]
    rfl
def glB (sc : Scope) (x : Str) : Bool := decide (sc.names.lookup x = some .globalImplicit)
variable {G : Gx} {lv : Nat} {W : WX} {sc : Scope} {X : Cx}
theorem Good.gl (g : Good G lv W sc X) {x : Str} (h : glB sc x = true) : Gl X x := by
  have := g.sc
  subst this
  exact (of_decide_eq_true h : X.env.scope.names.lookup x = some .globalImplicit)
theorem Good.hu (g : Good G lv W sc X) : X.A.units + 65 < cLine := by have := g.room.un; omega
/-! ### the forms -/
def bin1 (op : Operator) : Expr → Option (List Expr)
  | .BinOp a op' b _ => if op' = op then some [a, b] else none
  | _ => none
def cmp1 (op : CmpOp) : Expr → Option (List Expr)
  | .Compare a [op'] [b] _ => if op' = op ∧ behindInMarks op b = false then some [a, b] else none
  | _ => none
def call1 (sc : Scope) (x : Str) (n : Nat) : Expr → Option (List Expr)
  | .Call (.Name y _) xs [] _ => if y = x ∧ glB sc x = true ∧ xs.length = n then some xs else none
  | _ => none
theorem bin1_inv {op : Operator} {e : Expr} {xs : List Expr} (h : bin1 op e = some xs) : ∃ a b pos, e = .BinOp a op b pos ∧ xs = [a, b] := by
  unfold bin1 at h
  split at h
  · split at h
    · rename_i q; cases h; subst q; exact ⟨_, _, _, rfl, rfl⟩
    · cases h
  · cases h
theorem cmp1_inv {op : CmpOp} {e : Expr} {xs : List Expr} (h : cmp1 op e = some xs) : ∃ a b pos, e = .Compare a [op] [b] pos ∧ xs = [a, b] ∧ behindInMarks op b = false := by
  unfold cmp1 at h
  split at h
  · split at h
    · rename_i q; cases h; obtain ⟨rfl, q⟩ := q; exact ⟨_, _, _, rfl, rfl, q⟩
    · cases h
  · cases h
theorem call1_inv {x : Str} {n : Nat} {e : Expr} {xs : List Expr} (h : call1 sc x n e = some xs) : ∃ p pos, e = .Call (.Name x p) xs [] pos ∧ glB sc x = true ∧ xs.length = n := by
  unfold call1 at h
  split at h
  · split at h
    · rename_i q; cases h; obtain ⟨rfl, q⟩ := q; exact ⟨_, _, rfl, q⟩
    · cases h
  · cases h
def nmOf : Kd → Str
  | .int => "int"
  | .bool => "bool"
  | .tup => "tuple"
  | .list => "list"
  | .str => "str"
  | .dict => "dict"
def opArgs (sc : Scope) : Op → Expr → Option (List Expr)
  | .add, e => bin1 .Add e
  | .sub, e => bin1 .Sub e
  | .mul, e => bin1 .Mult e
  | .fdiv, e => bin1 .FloorDiv e
  | .mod, e => bin1 .Mod e
  | .pow, e => bin1 .Pow e
  | .neg, e => match e with
    | .UnaryOp .USub a _ => some [a]
    | _ => none
  | .eq, e => cmp1 .Eq e
  | .ltD, e => cmp1 .Lt e
  | .ne, e => cmp1 .NotEq e
  | .lt, e => cmp1 .Lt e
  | .le, e => cmp1 .LtE e
  | .gt, e => cmp1 .Gt e
  | .ge, e => cmp1 .GtE e
  | .isN, e => cmp1 .Is e
  | .notN, e => cmp1 .IsNot e
  | .len, e => call1 sc "len" 1 e
  | .ixL, e => match e with
    | .Subscript a b _ => if noSlice b then some [a, b] else none
    | _ => none
  | .ixT, e => match e with
    | .Subscript a b _ => if noSlice b then some [a, b] else none
    | _ => none
  | .ixD, e => match e with
    | .Subscript a b _ => if noSlice b then some [a, b] else none
    | _ => none
  | .inn neg, e => cmp1 (if neg then .NotIn else .In) e
  | .inD neg, e => cmp1 (if neg then .NotIn else .In) e
  | .slL a b, e => match e with
    | .Subscript x (.Slice lo hi none _) _ => match a, b, lo, hi with
      | false, false, none, none => some [x]
      | true, false, some i, none => some [x, i]
      | false, true, none, some j => some [x, j]
      | _, _, _, _ => none
    | _ => none
  | .slT a b, e => match e with
    | .Subscript x (.Slice lo hi none _) _ => match a, b, lo, hi with
      | false, false, none, none => some [x]
      | true, false, some i, none => some [x, i]
      | false, true, none, some j => some [x, j]
      | _, _, _, _ => none
    | _ => none
  | .listL, e => call1 sc "list" 1 e
  | .listT, e => call1 sc "list" 1 e
  | .listR, e => match e with
    | .Call (.Name y _) [.Call (.Name y' _) [a] [] _] [] _ => if y = "list" ∧ y' = "range" ∧ glB sc "list" = true ∧ glB sc "range" = true then some [a] else none
    | _ => none
  | .revL, e => match e with
    | .Call (.Name y _) [.Call (.Name y' _) [a] [] _] [] _ => if y = "list" ∧ y' = "reversed" ∧ glB sc "list" = true ∧ glB sc "reversed" = true then some [a] else none
    | _ => none
  | .tupL, e => call1 sc "tuple" 1 e
  | .tupT, e => call1 sc "tuple" 1 e
  | .tupR, e => match e with
    | .Call (.Name y _) [.Call (.Name y' _) [a] [] _] [] _ => if y = "tuple" ∧ y' = "range" ∧ glB sc "tuple" = true ∧ glB sc "range" = true then some [a] else none
    | _ => none
  | .catL, e => bin1 .Add e
  | .catT, e => bin1 .Add e
  | .catS, e => bin1 .Add e
  | .srt, e => call1 sc "sorted" 1 e
  | .srtK, e => call1 sc "sorted" 1 e
  | .max2, e => call1 sc "max" 2 e
  | .mx2D, e => call1 sc "max" 2 e
  | .mxLD, e => call1 sc "max" 1 e
  | .mnLD, e => call1 sc "min" 1 e
  | .mnLN, e => match e with
    | .Call (.Name y _) [a] [⟨some k, .Constant .none _ _, _⟩] _ => if y = "min" ∧ k = "default" ∧ glB sc "min" = true then some [a] else none
    | _ => none
  | .mn2D, e => call1 sc "min" 2 e
  | .min2, e => call1 sc "min" 2 e
  | .maxL, e => call1 sc "max" 1 e
  | .minL, e => call1 sc "min" 1 e
  | .sumL, e => call1 sc "sum" 1 e
  | .absI, e => call1 sc "abs" 1 e
  | .intB, e => call1 sc "int" 1 e
  | .allL, e => call1 sc "all" 1 e
  | .isK k, e => match e with
    | .Call (.Name y _) [a, .Name t _] [] _ => if y = "isinstance" ∧ t = nmOf k ∧ glB sc "isinstance" = true ∧ glB sc (nmOf k) = true then some [a] else none
    | _ => none
  | .idx, _ => none
  | .cnt, _ => none
  | .dget1, _ => none
  | .dget2, _ => none
theorem two_of {X : Cx} {a b : Expr} {ts : List TE} (h : PEs X [a, b] ts) : ∃ ta tb, ts = [ta, tb] ∧ noStar a = true ∧ noStar b = true ∧ PE X a ta ∧ PE X b tb := by
  cases h with
  | cons a1 a2 a3 =>
    cases a3 with
    | cons b1 b2 b3 => cases b3; exact ⟨_, _, rfl, a1, b1, a2, b2⟩
theorem one_of {X : Cx} {a : Expr} {ts : List TE} (h : PEs X [a] ts) : ∃ ta, ts = [ta] ∧ noStar a = true ∧ PE X a ta := by
  cases h with
  | cons a1 a2 a3 => cases a3; exact ⟨_, rfl, a1, a2⟩
theorem three_of {X : Cx} {a b c : Expr} {ts : List TE} (h : PEs X [a, b, c] ts) : ∃ ta tb tc, ts = [ta, tb, tc] ∧ PE X a ta ∧ PE X b tb ∧ PE X c tc := by
  cases h with
  | cons a1 a2 a3 =>
    obtain ⟨tb, tc, rfl, _, _, h2, h3⟩ := two_of a3
    exact ⟨_, _, _, rfl, a2, h2, h3⟩
theorem callB_pe {x : Str} {id : String} {r : List V → Hp → VK → Prop} {xs : List Expr} {ts : List TE} {p pos : Pos} (hc : CallR X (.builtin id) r) (hg : Gl X x) (hm : X.mg x = none) (hv : bootBuiltins x = some (.builtin id)) (hn : x ≠ "__name__") (hdb : (x == ("__debug__" : Str)) = false)
    (h : PEs X xs ts) (h0 : xs ≠ []) : PE X (.Call (.Name x p) xs [] pos) (tCB r (tL ts)) := by
  cases h with
  | nil => exact absurd rfl h0
  | cons a b c => exact pe_callB hc hg hm hv (PEs.cons a b c).pa hn hdb (star_of a _ _) c.plain
theorem callTy_pe {x : Str} {T : String} {r : List V → Hp → VK → Prop} {xs : List Expr} {ts : List TE} {p pos : Pos} (hc : CallR X (.type T) r) (hg : Gl X x) (hm : X.mg x = none) (hv : bootBuiltins x = some (.type T)) (hn : x ≠ "__name__") (hdb : (x == ("__debug__" : Str)) = false)
    (h : PEs X xs ts) (h0 : xs ≠ []) : PE X (.Call (.Name x p) xs [] pos) (tCB r (tL ts)) := by
  cases h with
  | nil => exact absurd rfl h0
  | cons a b c => exact pe_callTy hc hg hm hv (PEs.cons a b c).pa hn hdb (star_of a _ _) c.plain
theorem slice_args {r : V → Option Int → Option Int → Hp → VK → Prop} {a b : Bool} {x : Expr} {lo hi : Option Expr} {p pos : Pos} {xs : List Expr} {ts : List TE} (hr : SlR X r)
    (h : (match a, b, lo, hi with
      | false, false, none, none => some [x]
      | true, false, some i, none => some [x, i]
      | false, true, none, some j => some [x, j]
      | _, _, _, _ => none) = some xs) (hp : PEs X xs ts) : PE X (.Subscript x (.Slice lo hi none p) pos) (tCB (slV r a b) (tL ts)) := by
  split at h
  · cases h
    obtain ⟨t, rfl, _, h1⟩ := one_of hp
    exact pe_slice hr h1 po_none po_none
  · cases h
    obtain ⟨t, u, rfl, _, _, h1, h2⟩ := two_of hp
    exact pe_slice hr h1 (po_some h2) po_none
  · cases h
    obtain ⟨t, u, rfl, _, _, h1, h2⟩ := two_of hp
    exact pe_slice hr h1 po_none (po_some h2)
  · cases h
theorem Good.m (g : Good G lv W sc X) {x : Str} (h : x ∈ blts) : X.mg x = none := g.blt x h
theorem pe_any {e : Expr} {t u : TE} (h : PE X e t) (i : ∀ σ H Q, u σ H Q → t σ H Q) : PE X e u := ⟨fun pins s σ H Q I w => h.run pins s σ H Q I (i σ H Q w)⟩
theorem op_pe {o : Op} {e : Expr} {xs : List Expr} {ts : List TE} (g : Good G lv W sc X) (h : opArgs sc o e = some xs) (hp : PEs X xs ts) : PE X e (tCB (rOf X.K X.w o) (tL ts)) := by
  have b2 : ∀ {op : Operator} {r : R2}, bin1 op e = some xs → OpR X (binaryOp op) r → PE X e (tCB (r2l r) (tL ts)) := fun {op r} h ho => by
    obtain ⟨a, b, pos, rfl, rfl⟩ := bin1_inv h
    obtain ⟨ta, tb, rfl, _, _, h1, h2⟩ := two_of hp
    exact pe_op ho h1 h2
  have c2 : ∀ {op : CmpOp} {r : R2}, cmp1 op e = some xs → OpR X (compareOp op) r → PE X e (tCB (r2l r) (tL ts)) := fun {op r} h ho => by
    obtain ⟨a, b, pos, rfl, rfl, hb⟩ := cmp1_inv h
    obtain ⟨ta, tb, rfl, _, _, h1, h2⟩ := two_of hp
    exact pe_cmpR ho h1 h2 hb
  have k1 : ∀ {x : Str} {n : Nat} {id : String} {r : List V → Hp → VK → Prop}, call1 sc x n e = some xs → 0 < n → x ∈ blts → bootBuiltins x = some (.builtin id) → x ≠ "__name__" → (x == ("__debug__" : Str)) = false → CallR X (.builtin id) r → PE X e (tCB r (tL ts)) := fun {x n id r} h hn hb hv h1 h2 hc => by
    obtain ⟨p, pos, rfl, hg, hl⟩ := call1_inv h
    exact callB_pe hc (g.gl hg) (g.m hb) hv h1 h2 hp (fun e => by subst e; simp at hl; omega)
  have k2 : ∀ {x : Str} {n : Nat} {id : String} {r : List V → Hp → VK → Prop}, call1 sc x n e = some xs → 0 < n → x ∈ blts → bootBuiltins x = some (.type id) → x ≠ "__name__" → (x == ("__debug__" : Str)) = false → CallR X (.type id) r → PE X e (tCB r (tL ts)) := fun {x n id r} h hn hb hv h1 h2 hc => by
    obtain ⟨p, pos, rfl, hg, hl⟩ := call1_inv h
    exact callTy_pe hc (g.gl hg) (g.m hb) hv h1 h2 hp (fun e => by subst e; simp at hl; omega)
  have hu : X.A.units + 65 < cLine := g.hu
  cases o with
  | add => exact b2 h op_add
  | sub => exact b2 h op_sub
  | mul => exact b2 h op_mulE
  | fdiv => exact b2 h op_fdivW
  | mod => exact b2 h op_mod
  | pow => exact b2 h op_pow
  | neg =>
    simp only [opArgs] at h
    split at h
    · cases h
      obtain ⟨t, rfl, _, h1⟩ := one_of hp
      exact pe_un un_neg h1
    · cases h
  | eq => exact c2 h (op_eqD (by omega))
  | ltD => exact c2 h (op_ltD (by omega))
  | ne => exact c2 h (op_neD (by omega))
  | lt => exact c2 h op_lt
  | le => exact c2 h op_le
  | gt => exact c2 h op_gt
  | ge => exact c2 h op_ge
  | isN => exact c2 h op_isNB
  | notN => exact c2 h op_notNB
  | len => exact k1 h (by decide) (by decide) PySem.boot_len (by decide) (by decide) call_lenE
  | ixL =>
    simp only [opArgs] at h
    split at h
    · split at h
      · rename_i hs
        cases h
        obtain ⟨t, u, rfl, _, _, h1, h2⟩ := two_of hp
        exact pe_ix ix_list h1 h2 (ix_of hs)
      · cases h
    · cases h
  | ixT =>
    simp only [opArgs] at h
    split at h
    · split at h
      · rename_i hs
        cases h
        obtain ⟨t, u, rfl, _, _, h1, h2⟩ := two_of hp
        exact pe_ix ix_tup h1 h2 (ix_of hs)
      · cases h
    · cases h
  | ixD =>
    simp only [opArgs] at h
    split at h
    · split at h
      · rename_i hs
        cases h
        obtain ⟨t, u, rfl, _, _, h1, h2⟩ := two_of hp
        exact pe_dgetN hu h1 h2 (ix_of hs)
      · cases h
    · cases h
  | inn neg =>
    cases neg with
    | true => exact c2 (r := fun x y H Q => rNotInD X.K x y H Q ∨ rNotInU X.K x y H Q) h ((op_notInD hu).or (op_notInU hu))
    | false => exact c2 (r := fun x y H Q => rInD X.K x y H Q ∨ rInU X.K x y H Q) h ((op_inD hu).or (op_inU hu))
  | inD neg =>
    cases neg with
    | true =>
      obtain ⟨a, b, pos, rfl, rfl, hb⟩ := cmp1_inv h
      obtain ⟨ta, tb, rfl, _, _, h1, h2⟩ := two_of hp
      exact pe_cmp (pc_dnotinN hu h1 h2) hb
    | false =>
      obtain ⟨a, b, pos, rfl, rfl, hb⟩ := cmp1_inv h
      obtain ⟨ta, tb, rfl, _, _, h1, h2⟩ := two_of hp
      exact pe_cmp (pc_dinN hu h1 h2) hb
  | slL a b =>
    simp only [opArgs] at h
    split at h
    · exact slice_args sl_list h hp
    · cases h
  | slT a b =>
    simp only [opArgs] at h
    split at h
    · exact slice_args sl_tupA h hp
    · cases h
  | listL => exact k2 h (by decide) (by decide) boot_list (by decide) (by decide) call_list_of
  | listT => exact k2 h (by decide) (by decide) boot_list (by decide) (by decide) call_list_of
  | listR =>
    simp only [opArgs] at h
    split at h
    · split at h
      · rename_i q
        cases h
        obtain ⟨rfl, rfl, g1, g2⟩ := q
        obtain ⟨t, rfl, hs, h1⟩ := one_of hp
        exact pe_any (pe_listRg g.calm (g.gl g1) (g.m (by decide)) (prg_1 (g.gl g2) (g.m (by decide)) h1 (star_of hs _ _))) fun σ H Q w => w
      · cases h
    · cases h
  | revL =>
    simp only [opArgs] at h
    split at h
    · split at h
      · rename_i q
        cases h
        obtain ⟨rfl, rfl, g1, g2⟩ := q
        obtain ⟨t, rfl, hs, h1⟩ := one_of hp
        exact pe_any (pe_listRev g.calm (g.gl g1) (g.m (by decide)) (g.gl g2) (g.m (by decide)) h1 (star_of hs _ _)) fun σ H Q w => w
      · cases h
    · cases h
  | tupL =>
    obtain ⟨p, pos, rfl, hg, hl⟩ := call1_inv h
    match xs, hl with
    | [a], _ =>
      obtain ⟨t, rfl, hs, h1⟩ := one_of hp
      exact pe_any (pe_tupleOf (g.gl hg) (g.m (by decide)) h1 (star_of hs _ _)) fun σ H Q w => w
  | tupT =>
    obtain ⟨p, pos, rfl, hg, hl⟩ := call1_inv h
    match xs, hl with
    | [a], _ =>
      obtain ⟨t, rfl, hs, h1⟩ := one_of hp
      exact pe_any (pe_tupleOf (g.gl hg) (g.m (by decide)) h1 (star_of hs _ _)) fun σ H Q w => w
  | tupR =>
    simp only [opArgs] at h
    split at h
    · split at h
      · rename_i q
        cases h
        obtain ⟨rfl, rfl, g1, g2⟩ := q
        obtain ⟨t, rfl, hs, h1⟩ := one_of hp
        exact pe_any (pe_tupRg g.calm (g.gl g1) (g.m (by decide)) (prg_1 (g.gl g2) (g.m (by decide)) h1 (star_of hs _ _))) fun σ H Q w => w
      · cases h
    · cases h
  | catL => exact b2 h op_catL
  | catT => exact b2 h op_catA
  | catS => exact b2 h op_add_str
  | srt => exact k1 h (by decide) (by decide) boot_sorted (by decide) (by decide) (call_srt (by omega))
  | srtK => exact k1 h (by decide) (by decide) boot_sorted (by decide) (by decide) (call_srtK g.calm (by omega))
  | max2 => exact k1 h (by decide) (by decide) boot_max (by decide) (by decide) (call_max2 g.calm)
  | mxLD => exact k1 h (by decide) (by decide) boot_max (by decide) (by decide) (call_mxLD g.calm (by omega))
  | mnLD => exact k1 h (by decide) (by decide) boot_min (by decide) (by decide) (call_mnLD g.calm (by omega))
  | mnLN =>
    simp only [opArgs] at h
    split at h
    · split at h
      · rename_i q
        cases h
        obtain ⟨rfl, rfl, g1⟩ := q
        obtain ⟨t, rfl, hs, h1⟩ := one_of hp
        exact pe_mnLN g.calm (by omega) (g.gl g1) (g.m (by decide)) h1 (star_of hs _ _)
      · cases h
    · cases h
  | mx2D => exact k1 h (by decide) (by decide) boot_max (by decide) (by decide) (call_mx2D g.calm (by omega))
  | mn2D => exact k1 h (by decide) (by decide) boot_min (by decide) (by decide) (call_mn2D g.calm (by omega))
  | min2 => exact k1 h (by decide) (by decide) boot_min (by decide) (by decide) (call_min2 g.calm)
  | maxL => exact k1 h (by decide) (by decide) boot_max (by decide) (by decide) (cr_max g.calm)
  | minL => exact k1 h (by decide) (by decide) boot_min (by decide) (by decide) (cr_min g.calm)
  | sumL => exact k1 h (by decide) (by decide) boot_sum (by decide) (by decide) (cr_sum g.calm)
  | absI => exact k1 h (by decide) (by decide) boot_abs (by decide) (by decide) call_abs
  | intB => exact k2 h (by decide) (by decide) boot_int (by decide) (by decide) call_int1
  | allL => exact k1 h (by decide) (by decide) boot_all (by decide) (by decide) (cr_all g.calm)
  | isK k =>
    simp only [opArgs] at h
    split at h
    · split at h
      · rename_i q
        cases h
        obtain ⟨rfl, rfl, g1, g2⟩ := q
        obtain ⟨t, rfl, hs, h1⟩ := one_of hp
        have hT : ∀ p : Pos, PE X (.Name (nmOf k) p) (tC (.ty (clsOf k))) := fun p => by
          cases k
          · exact pe_bltn (g.gl g2) (g.m (by decide)) boot_int rfl (by decide) (by decide)
          · exact pe_bltn (g.gl g2) (g.m (by decide)) boot_bool rfl (by decide) (by decide)
          · exact pe_bltn (g.gl g2) (g.m (by decide)) boot_tuple rfl (by decide) (by decide)
          · exact pe_bltn (g.gl g2) (g.m (by decide)) boot_list rfl (by decide) (by decide)
          · exact pe_bltn (g.gl g2) (g.m (by decide)) boot_str rfl (by decide) (by decide)
          · exact pe_bltn (g.gl g2) (g.m (by decide)) boot_dict rfl (by decide) (by decide)
        exact callB_pe (ts := [t, tC (.ty (clsOf k))]) call_isi (g.gl g1) (g.m (by decide)) boot_isinstance (by decide) (by decide) (.cons hs h1 (.cons rfl (hT _) .nil)) (by simp)
      · cases h
    · cases h
  | idx => cases h
  | cnt => cases h
  | dget1 => cases h
  | dget2 => cases h
end En

set_option Elab.async false
set_option linter.all false
set_option autoImplicit false
set_option maxRecDepth 100000
namespace En
open PySem PySem.Spec PyProof.Rows L2 RZ
variable {G : Gx} {W : WX} {H H' H'' : Hp} {z z' z'' : Addr → Prop} {τ τ' τ'' : Ty} {d : D} {v : V} {ds : List D} {vs : List V} {m m' m1 m2 m0 : Ow} {τs : List Ty} {Γ Γ' Γ1 Γ2 Γ3 : TyEnv}
variable {te tb tc : TE} {f g k : Env → Res D}
/-- two comparisons of ints -/
def cmpF : Op → Option (Int → Int → Bool)
  | .lt => some fun i j => decide (i < j)
  | .le => some fun i j => decide (i ≤ j)
  | .gt => some fun i j => decide (j < i)
  | .ge => some fun i j => decide (j ≤ i)
  | _ => none
theorem cmpF_op {o : Op} {p : Int → Int → Bool} (h : cmpF o = some p) : opv o = (iD fun i j => .bool (p i j)) := by
  cases o <;> simp only [cmpF] at h <;> first | (cases h; rfl) | cases h
theorem EvE.chain {o o' : Op} {p p' : Int → Int → Bool} (ho : cmpF o = some p) (ho' : cmpF o' = some p') (ha : EvE G W te Γ Γ τ f) (hb : EvE G W tb Γ Γ τ' g) (hc : EvE G W tc Γ Γ τ'' k) :
    EvE G W (tChain (rI0 fun i j => .bl (p i j)) (rI0 fun i j => .bl (p' i j)) te tb tc) Γ Γ .I fun ρ => (f ρ).bind fun x => (g ρ).bind fun y => (Res.of (opv o [x, y])).bind fun z => (toB z).bind fun t =>
      if t then (k ρ).bind fun w => .of (opv o' [y, w]) else .ok (.bool false) := by
  intro ρ σ H z m se ok Q h
  rw [Res.post_bind] at h
  refine ha ρ σ H z m se ok _ (Res.post_mono h (fun d h v H1 z1 m1 mv se1 r1 st1 ex1 => ?_) fun _ h => h)
  have st1' : Stp H z m H1 z1 m1 := st1.drop fun _ => Nat.le_add_right _ _
  rw [Res.post_bind] at h
  refine hb ρ σ H1 z1 m1 se1 st1'.ok _ (Res.post_mono h (fun e h v' H2 z2 m2 mw se2 r2 st2 ex2 => ?_) fun _ h => h.ext ex1)
  have st2' : Stp H z m H2 z2 m2 := st1'.trans (st2.drop fun _ => Nat.le_add_right _ _)
  rw [Res.post_bind, Res.post_of] at h
  obtain ⟨q, hq, h⟩ := h
  rw [cmpF_op ho] at hq
  obtain ⟨i, j, e1, rfl⟩ := iD_inv hq
  simp only [List.cons.injEq, and_true] at e1
  obtain ⟨rfl, rfl⟩ := e1
  obtain rfl := Rp.int_inv r1
  obtain rfl := Rp.int_inv r2
  refine ⟨i, j, rfl, rfl, p i j, rfl, ?_⟩
  simp only [toB, Res.bind_ok] at h
  cases hp : p i j with
  | true =>
    simp only [hp, if_true] at h ⊢
    rw [Res.post_bind] at h
    refine hc ρ σ H2 z2 m2 se2 st2'.ok _ (Res.post_mono h (fun w h v3 H3 z3 m3 mx se3 r3 st3 ex3 => ?_) fun _ h => h.ext (ex1.trans ex2))
    rw [Res.post_of] at h
    obtain ⟨q, hq, h⟩ := h
    rw [cmpF_op ho'] at hq
    obtain ⟨i', j', e1, rfl⟩ := iD_inv hq
    simp only [List.cons.injEq, and_true] at e1
    obtain ⟨e0, rfl⟩ := e1
    cases e0
    obtain rfl := Rp.int_inv r3
    exact ⟨_, j', rfl, rfl, h _ H3 z3 m3 (fun _ => 0) se3 (Rp.atom rfl) (st2'.trans (st3.drop fun _ => Nat.le_add_right _ _)) (ex1.trans (ex2.trans ex3))⟩
  | false =>
    simp only [hp, Bool.false_eq_true, if_false] at h ⊢
    exact h _ H2 z2 m2 (fun _ => 0) se2 (Rp.atom rfl) st2' (ex1.trans ex2)
/-- three comparisons -/
def tChain3 (r r' r3 : R2) (ta tb tc td : TE) : TE := fun σ H Q => ta σ H fun x H1 => tb σ H1 fun y H2 => r x y H2 fun z H3 => ∃ k, z = .bl k ∧
  (if k = true then tc σ H3 fun w H4 => r' y w H4 fun z' H5 => ∃ k', z' = .bl k' ∧ (if k' = true then td σ H5 fun u H6 => r3 w u H6 Q else Q (.bl false) H5) else Q (.bl false) H3)
theorem EvE.chain3 {o o' o3 : Op} {p p' p3 : Int → Int → Bool} {td : TE} {l : Env → Res D} {τ3 : Ty} (ho : cmpF o = some p) (ho' : cmpF o' = some p') (ho3 : cmpF o3 = some p3) (ha : EvE G W te Γ Γ τ f) (hb : EvE G W tb Γ Γ τ' g) (hc : EvE G W tc Γ Γ τ'' k) (hd : EvE G W td Γ Γ τ3 l) :
    EvE G W (tChain3 (rI0 fun i j => .bl (p i j)) (rI0 fun i j => .bl (p' i j)) (rI0 fun i j => .bl (p3 i j)) te tb tc td) Γ Γ .I fun ρ => (f ρ).bind fun x => (g ρ).bind fun y => (Res.of (opv o [x, y])).bind fun z => (toB z).bind fun t =>
      if t then (k ρ).bind fun w => (Res.of (opv o' [y, w])).bind fun z' => (toB z').bind fun t' => if t' then (l ρ).bind fun u => .of (opv o3 [w, u]) else .ok (.bool false) else .ok (.bool false) := by
  intro ρ σ H z m se ok Q h
  rw [Res.post_bind] at h
  refine ha ρ σ H z m se ok _ (Res.post_mono h (fun d h v H1 z1 m1 mv se1 r1 st1 ex1 => ?_) fun _ h => h)
  have st1' : Stp H z m H1 z1 m1 := st1.drop fun _ => Nat.le_add_right _ _
  rw [Res.post_bind] at h
  refine hb ρ σ H1 z1 m1 se1 st1'.ok _ (Res.post_mono h (fun e h v' H2 z2 m2 mw se2 r2 st2 ex2 => ?_) fun _ h => h.ext ex1)
  have st2' : Stp H z m H2 z2 m2 := st1'.trans (st2.drop fun _ => Nat.le_add_right _ _)
  rw [Res.post_bind, Res.post_of] at h
  obtain ⟨q, hq, h⟩ := h
  rw [cmpF_op ho] at hq
  obtain ⟨i, j, e1, rfl⟩ := iD_inv hq
  simp only [List.cons.injEq, and_true] at e1
  obtain ⟨rfl, rfl⟩ := e1
  obtain rfl := Rp.int_inv r1
  obtain rfl := Rp.int_inv r2
  refine ⟨i, j, rfl, rfl, p i j, rfl, ?_⟩
  simp only [toB, Res.bind_ok] at h
  cases hp : p i j with
  | true =>
    simp only [hp, if_true] at h ⊢
    rw [Res.post_bind] at h
    refine hc ρ σ H2 z2 m2 se2 st2'.ok _ (Res.post_mono h (fun w h v3 H3 z3 m3 mx se3 r3 st3 ex3 => ?_) fun _ h => h.ext (ex1.trans ex2))
    have st3' : Stp H z m H3 z3 m3 := st2'.trans (st3.drop fun _ => Nat.le_add_right _ _)
    rw [Res.post_bind, Res.post_of] at h
    obtain ⟨q, hq, h⟩ := h
    rw [cmpF_op ho'] at hq
    obtain ⟨i', j', e1, rfl⟩ := iD_inv hq
    simp only [List.cons.injEq, and_true] at e1
    obtain ⟨e0, rfl⟩ := e1
    cases e0
    obtain rfl := Rp.int_inv r3
    refine ⟨_, j', rfl, rfl, p' _ j', rfl, ?_⟩
    simp only [toB, Res.bind_ok] at h
    cases hp' : p' j j' with
    | true =>
      simp only [hp', if_true] at h ⊢
      rw [Res.post_bind] at h
      refine hd ρ σ H3 z3 m3 se3 st3'.ok _ (Res.post_mono h (fun w h v4 H4 z4 m4 my se4 r4 st4 ex4 => ?_) fun _ h => h.ext (ex1.trans (ex2.trans ex3)))
      rw [Res.post_of] at h
      obtain ⟨q, hq, h⟩ := h
      rw [cmpF_op ho3] at hq
      obtain ⟨i2, j2, e1, rfl⟩ := iD_inv hq
      simp only [List.cons.injEq, and_true] at e1
      obtain ⟨e0, rfl⟩ := e1
      cases e0
      obtain rfl := Rp.int_inv r4
      exact ⟨_, j2, rfl, rfl, h _ H4 z4 m4 (fun _ => 0) se4 (Rp.atom rfl) (st3'.trans (st4.drop fun _ => Nat.le_add_right _ _)) (ex1.trans (ex2.trans (ex3.trans ex4)))⟩
    | false =>
      simp only [hp', Bool.false_eq_true, if_false] at h ⊢
      exact h _ H3 z3 m3 (fun _ => 0) se3 (Rp.atom rfl) st3' (ex1.trans (ex2.trans ex3))
  | false =>
    simp only [hp, Bool.false_eq_true, if_false] at h ⊢
    exact h _ H2 z2 m2 (fun _ => 0) se2 (Rp.atom rfl) st2' (ex1.trans ex2)
section
variable {X : Cx} {a b c d : Expr} {ta tb tc td : TE} {pos : Pos}
theorem pe_chain3 {op op' op3 : CmpOp} {r r' r3 : R2} (ho : OpR X (compareOp op) r) (ho' : OpR X (compareOp op') r') (ho3 : OpR X (compareOp op3) r3) (ha : PE X a ta) (hb : PE X b tb) (hc : PE X c tc) (hd : PE X d td)
    (hm : lastMarks [op, op', op3] [b, c, d] = false) : PE X (.Compare a [op, op', op3] [b, c, d] pos) (tChain3 r r' r3 ta tb tc td) := by
  refine ⟨fun pins s σ H Q I h => ?_⟩
  refine Compare_chain (thn (ha.run pins s σ H _ I h) fun v s1 ⟨x, H1, I1, r1, q1⟩ => chain_link (thn (hb.run pins s1 σ H1 _ I1 q1) fun u s2 ⟨y, H2, I2, r2, q2⟩ =>
    thn (ho pins s2 σ H2 x y v u _ I2 r1 r2 q2) fun d s3 ⟨z, H3, I3, r3, k, e, q3⟩ => ?_)) hm
  subst e
  cases r3
  refine wpAny_truthy_bool ?_
  cases k with
  | false => exact ite_ff ⟨.bl false, H3, I3, rfl, q3⟩
  | true =>
    refine ite_tt (chain_link (thn (hc.run pins s3 σ H3 _ I3 q3) fun w' s4 ⟨z', H4, I4, r4, q4⟩ => thn (ho' pins s4 σ H4 y z' u w' _ I4 r2 r4 q4) fun d' s5 ⟨z2, H5, I5, r5, k2, e2, q5⟩ => ?_))
    subst e2
    cases r5
    refine wpAny_truthy_bool ?_
    cases k2 with
    | false => exact ite_ff ⟨.bl false, H5, I5, rfl, q5⟩
    | true => exact ite_tt (chain_last (thn (hd.run pins s5 σ H5 _ I5 q5) fun w3 s6 ⟨z3, H6, I6, r6, q6⟩ => ho3 pins s6 σ H6 z' z3 w' w3 Q I6 r4 r6 q6))
theorem pt_chain3 {op op' op3 : CmpOp} {r r' r3 : R2} (ho : OpR X (compareOp op) r) (ho' : OpR X (compareOp op') r') (ho3 : OpR X (compareOp op3) r3) (ha : PE X a ta) (hb : PE X b tb) (hc : PE X c tc) (hd : PE X d td)
    (hm : lastMarks [op, op', op3] [b, c, d] = false) : PT X (.Compare a [op, op', op3] [b, c, d] pos) (tTest (tChain3 r r' r3 ta tb tc td)) := by
  refine ⟨fun pins s σ H Q I h => ?_⟩
  refine isTrue_chain (thn (ha.run pins s σ H _ I h) fun v s1 ⟨x, H1, I1, r1, q1⟩ => test_link (thn (hb.run pins s1 σ H1 _ I1 q1) fun u s2 ⟨y, H2, I2, r2, q2⟩ =>
    thn (ho pins s2 σ H2 x y v u _ I2 r1 r2 q2) fun d s3 ⟨z, H3, I3, r3, k, e, q3⟩ => ?_)) hm
  subst e
  cases r3
  refine wpAny_truthy_bool ?_
  cases k with
  | false =>
    obtain ⟨k', e', q'⟩ := q3
    cases e'
    exact ite_ff ⟨H3, I3, q'⟩
  | true =>
    refine ite_tt (test_link (thn (hc.run pins s3 σ H3 _ I3 q3) fun w' s4 ⟨z', H4, I4, r4, q4⟩ => thn (ho' pins s4 σ H4 y z' u w' _ I4 r2 r4 q4) fun d' s5 ⟨z2, H5, I5, r5, k2, e2, q5⟩ => ?_))
    subst e2
    cases r5
    refine wpAny_truthy_bool ?_
    cases k2 with
    | false =>
      obtain ⟨k', e', q'⟩ := q5
      cases e'
      exact ite_ff ⟨H5, I5, q'⟩
    | true =>
      refine ite_tt (test_last (thn (hd.run pins s5 σ H5 _ I5 q5) fun w3 s6 ⟨z3, H6, I6, r6, q6⟩ => thn (ho3 pins s6 σ H6 z' z3 w' w3 _ I6 r4 r6 q6) fun d6 s7 ⟨z4, H7, I7, r7, k3, e3, q7⟩ => ?_))
      subst e3
      cases r7
      exact wpAny_truthy_bool ⟨H7, I7, q7⟩
end
def sl2T (t : Bool) (τ : Ty) : Ty := if t then rd τ else .N .o (ch (rd τ))
theorem EvE.sl2 {t : Bool} (ha : EvE G W te Γ Γ1 τ f) (hb : EvE G W tb Γ1 Γ2 τ' g) (hc : EvE G W tc Γ2 Γ3 τ'' k) :
    EvE G W (tSl (if t then rSlA G.K else rSlL G.K) te (tPart tb) (tPart tc)) Γ Γ3 (sl2T t τ) fun ρ => (f ρ).bind fun x => (g ρ).bind fun y => (toI y).bind fun i => (k ρ).bind fun w => (toI w).bind fun j => match t, x with
      | false, .list xs => .ok (.list (cutD xs (some i) (some j)))
      | true, .tuple xs => .ok (.tuple (cutD xs (some i) (some j)))
      | _, _ => .bad := by
  intro ρ σ H z m se ok Q h
  rw [Res.post_bind] at h
  refine ha ρ σ H z m se ok _ (Res.post_mono h (fun d h v H1 z1 m1 mv se1 r1 st1 ex1 => ?_) fun _ h => h)
  have st1' : Stp H z m H1 z1 m1 := st1.drop fun _ => Nat.le_add_right _ _
  rw [Res.post_bind] at h
  refine hb ρ σ H1 z1 m1 se1 st1'.ok _ (Res.post_mono h (fun e h v' H2 z2 m2 mw se2 r2 st2 ex2 => ?_) fun _ h => h.ext ex1)
  have st2' : Stp H z m H2 z2 m2 := st1'.trans (st2.drop fun _ => Nat.le_add_right _ _)
  cases e with
  | int i =>
    obtain rfl := Rp.int_inv r2
    refine ⟨i, rfl, ?_⟩
    simp only [toI, Res.bind_ok] at h
    rw [Res.post_bind] at h
    refine hc ρ σ H2 z2 m2 se2 st2'.ok _ (Res.post_mono h (fun w h v3 H3 z3 m3 mx se3 r3 st3 ex3 => ?_) fun _ h => h.ext (ex1.trans ex2))
    have st3' : Stp H z m H3 z3 m3 := st2'.trans (st3.drop fun _ => Nat.le_add_right _ _)
    cases w with
    | int j =>
      obtain rfl := Rp.int_inv r3
      refine ⟨j, rfl, ?_⟩
      simp only [toI, Res.bind_ok] at h
      have r0 : Rp G.F H3 z3 τ d v mv := r1.ext (ex2.trans ex3) fun a q => st3.zz a (st2.zz a q)
      have ex := ex1.trans (ex2.trans ex3)
      have okk : ∀ {Qd : D}, (∀ (v : V) (H' : Hp) (z' : Addr → Prop) (m1 mv : Ow), SE G.F H' z' Γ3 ρ σ m1 → Rp G.F H' z' (sl2T t τ) Qd v mv → Stp H z m H' z' (fun a => m1 a + mv a) → Ext H H' → Q v H') →
          ∀ (v : V) (H' : Hp) (z' : Addr → Prop) (m' : Ow), Rp G.F H' z' (sl2T t τ) Qd v m' → Stp H3 z3 (fun _ => 0) H' z' m' → Ext H3 H' → Q v H' := fun {Qd} h v H' z' m' r st e => by
        have fr := st.frame (r := m3) (st3'.ok.eqm fun b => by simp)
        exact h v H' z' m3 m' (se3.ext e st.zz) r (st3'.trans (fr.eqm (m3 := m3) (m4 := fun a => m3 a + m' a) (fun b => by simp) fun b => Nat.add_comm _ _)) (ex.trans e)
      have ok0 : Ok H3 z3 fun _ => 0 := st3'.ok.drop fun _ => Nat.zero_le _
      cases t with
      | false =>
        cases d with
        | list xs =>
          obtain ⟨q, t, a, ws, _, _, rfl, rfl, hb, rl, _⟩ := Rp.list_inv r0
          simp only [Res.post_ok] at h
          refine ⟨a, ws, rfl, Box.sqL hb, ?_⟩
          have h2 := okk h
          simp only [sl2T, Bool.false_eq_true, if_false, ch_rd] at h2
          exact ops_lst ok0 h2 rl.rdd.cut0
        | _ => exact h.elim
      | true =>
        cases d with
        | tuple xs =>
          obtain ⟨a, ws, rfl, hb, rl⟩ := Rp.tup_inv r0
          simp only [Res.post_ok] at h
          have h2 := okk h
          simp only [sl2T, if_true] at h2
          refine ⟨a, ws, rfl, hb, fun hw => ?_, fun _ => ops_tup ok0 h2 rl.rdd.cut0⟩
          rw [← rl.length] at hw
          rw [cut_whole hw] at h2
          exact ops_same ok0 h2 (Rp.mkT hb rl.rdd)
        | _ => exact h.elim
    | _ => exact h.elim
  | _ => exact h.elim
theorem EvE.glob {d : D} {v : V} (h : ∀ (H : Hp) (z : Addr → Prop), Rp G.F H z τ d v fun _ => 0) : EvE G W (tC v) Γ Γ τ fun _ => .ok d := by
  intro ρ σ H z m se ok Q q
  exact q v H z m (fun _ => 0) se (h H z) (by simpa using Stp.refl ok) Ext.refl
/-! ### calls without arguments -/
section
variable {X : Cx} {CX : CXT} {kk : Nat} {fa : Addr} {fd : FuncData} {ps : List Str} {sp : Sp} {dvs : List V} {dss : List Value} {E : L2.St → XK} {x : Str} {p pos : Pos}
theorem pe_callSD0 (F : FnOk X.prog X.w X.K X.mg X.base CX kk fa fd ps sp) (hr : Room kk X.A) (hg : Gl X x) (hm : X.mg x = some (.ref fa)) (hk : PySem.W.keepIn X.K (.ref fa) = true) (hb : Binds X.K fd ps dss) (hd : Vals dvs dss) (hx : ∀ σ, PassesAt CX X σ (E σ))
    (hdb : (x == ("__debug__" : Str)) = false) : PE X (.Call (.Name x p) [] [] pos) (tCallSD sp dvs E tNil) := by
  refine ⟨fun pins s σ H Q I h => ?_⟩
  refine wpAny_Call_Name_kw (ld_glob I hg hm ?_ hdb)
  exact PySem.W.callWith_K0 I.kIn hk (run_fnSD (us := []) F hr hb hd (hx σ) I .nil h)
theorem call_pe {xs : List Expr} {ts : List TE} (F : FnOk X.prog X.w X.K X.mg X.base CX kk fa fd ps sp) (hr : Room kk X.A) (hg : Gl X x) (hm : X.mg x = some (.ref fa)) (hk : PySem.W.keepIn X.K (.ref fa) = true) (hb : Binds X.K fd ps dss) (hd : Vals dvs dss) (hx : ∀ σ, PassesAt CX X σ (E σ))
    (hdb : (x == ("__debug__" : Str)) = false) (h : PEs X xs ts) : PE X (.Call (.Name x p) xs [] pos) (tCallSD sp dvs E (tL ts)) := by
  cases h with
  | nil => exact pe_callSD0 F hr hg hm hk hb hd hx hdb
  | cons a b c => exact pe_callSD F hr hg hm hk hb hd hx (PEs.cons a b c).pa hdb (star_of a _ _) c.plain
end
theorem all_ops (o : Op) : ∀ {τs τ}, opT o τs = some τ → OpS G.F (rOf G.K G.w o) τs τ (opv o) := by
  intro τs τ ht
  cases o with
  | add => exact (at_iD fun a b H Q => ⟨_, rfl, fun q => ⟨_, _, rfl, rfl, q⟩⟩ : OpAt G _ _).ops
  | sub => exact (at_iD fun a b H Q => ⟨_, rfl, fun q => ⟨_, _, rfl, rfl, q⟩⟩ : OpAt G _ _).ops
  | mul => exact (at_iDc fun a b H Q hc => ⟨_, rfl, fun q => ⟨_, _, rfl, rfl, hc, q⟩⟩ : OpAt G _ _).ops
  | fdiv => exact (at_iDc fun a b H Q hc => ⟨_, rfl, fun q => ⟨_, _, rfl, rfl, by simpa [CDivW] using hc, q⟩⟩ : OpAt G _ _).ops
  | mod => exact (at_iDc fun a b H Q hc => ⟨_, rfl, fun q => ⟨_, _, rfl, rfl, by simpa using hc, q⟩⟩ : OpAt G _ _).ops
  | pow => exact (at_iDc fun a b H Q hc => ⟨_, rfl, fun q => ⟨_, _, rfl, rfl, by
      simp only [Bool.and_eq_true, decide_eq_true_eq] at hc
      exact ⟨hc.1.1, hc.1.2, hc.2⟩, q⟩⟩ : OpAt G _ _).ops
  | neg => exact at_neg.ops
  | eq => exact at_eq.ops
  | ltD => exact at_ltD.ops
  | ne => exact at_ne.ops
  | lt => exact (at_iD fun a b H Q => ⟨_, rfl, fun q => ⟨_, _, rfl, rfl, q⟩⟩ : OpAt G _ _).ops
  | le => exact (at_iD fun a b H Q => ⟨_, rfl, fun q => ⟨_, _, rfl, rfl, q⟩⟩ : OpAt G _ _).ops
  | gt => exact (at_iD fun a b H Q => ⟨_, rfl, fun q => ⟨_, _, rfl, rfl, q⟩⟩ : OpAt G _ _).ops
  | ge => exact (at_iD fun a b H Q => ⟨_, rfl, fun q => ⟨_, _, rfl, rfl, q⟩⟩ : OpAt G _ _).ops
  | isN => exact at_isN.ops
  | notN => exact at_notN.ops
  | len => exact at_len.ops
  | ixL => exact ops_ixL ht
  | ixT => exact ops_ixT ht
  | ixD => exact ops_ixD ht
  | inn neg => exact at_inn.ops
  | inD neg => exact at_inD.ops
  | slL a b => exact ops_slL ht
  | slT a b => exact ops_slT ht
  | listL => exact ops_listL ht
  | listT => exact ops_listT ht
  | listR => exact ops_listR ht
  | revL => exact ops_revL ht
  | tupL => exact ops_tupL ht
  | tupT => exact ops_tupT ht
  | tupR => exact ops_tupR ht
  | catL => exact ops_catL ht
  | catT => exact ops_catT ht
  | catS => exact at_catS.ops
  | srt => exact ops_srt ht
  | srtK => exact ops_srtK ht
  | max2 => exact at_max2.ops
  | mxLD => exact ops_mxLD ht
  | mnLD => exact ops_mnLD ht
  | mnLN => exact ops_mnLN ht
  | mx2D => exact ops_mx2D ht
  | mn2D => exact ops_mn2D ht
  | min2 => exact at_min2.ops
  | maxL => exact at_maxL.ops
  | minL => exact at_minL.ops
  | sumL => exact at_sumL.ops
  | absI => exact at_absI.ops
  | intB => exact at_intB.ops
  | allL => exact at_allL.ops
  | isK k => exact at_isK.ops
  | idx => exact at_idx.ops
  | cnt => exact at_cnt.ops
  | dget1 => exact ops_dget1 ht
  | dget2 => exact ops_dget2 ht
end En

set_option Elab.async false
set_option linter.all false
set_option autoImplicit false
set_option maxRecDepth 100000
set_option maxHeartbeats 1000000
namespace En
open PySem PySem.Spec PyProof.Rows L2 RZ
/-! ## an instance of a class without an own __init__ -/
structure Bare (K : PySem.W.Frag) (C : Addr) : Prop where
  makes : PySem.W.makesIn K C = true
  init : PySem.W.findIn K (.ref C) "__init__" = some (some (.builtin "object.__init__"))
  kp : PySem.W.keepIn K (.ref C) = true
def tBare (C : Addr) : TE := fun σ H Q => ∀ x dx, H x = none → H dx = none → dx ≠ x → Q (.ref x) (upd (upd H dx (.own x)) x (.ins C dx []))
section
variable {X : Cx} {C : Addr} {x : Str} {p pos : Pos}
theorem run_bare {pins : List (Addr × Obj)} {σ : L2.St} {H : Hp} {s : Shared} {Q : VK} (M : Bare X.K C) (I : Inv X pins σ H s)
    (h : ∀ x dx, H x = none → H dx = none → dx ≠ x → Q (.ref x) (upd (upd H dx (.own x)) x (.ins C dx []))) :
    wpAny (model X.prog X.w) X.A (call (.ref C) []) (EP X pins σ Q) X.xe s := by
  have hq := h (s.heap.objs.size + 1) s.heap.objs.size (I.hok.fresh (Nat.le_succ _)) (I.hok.fresh (Nat.le_refl _)) (Nat.ne_of_lt (Nat.lt_succ_self _))
  have I2 := Inv.made (C := C) I
  refine wpAny_call (make_map0 I.kIn M.makes M.init (fun self => PySem.W.Looks.of_pure (PySem.W.oi_bind self)) ?_)
  have Y := PySem.W.makes_of (M := model X.prog X.w) I.kIn M.makes
  have e1 : ((s.heap.push PySem.W.emptyDict).push (PySem.W.instObj C s.heap.objs.size)).get? (s.heap.objs.size + 1) = some (PySem.W.instObj C s.heap.objs.size) := by
    have := Heap.get?_push_size (s.heap.push PySem.W.emptyDict) (o := PySem.W.instObj C s.heap.objs.size) rfl
    rwa [Heap.size_push] at this
  have t1 : PySem.W.Looks (model X.prog X.w) ((s.heap.push PySem.W.emptyDict).push (PySem.W.instObj C s.heap.objs.size)) (typeOf (.ref (s.heap.objs.size + 1))) (.ref C) := (PySem.W.Looks.ld e1).andThen .now
  have t2 : PySem.W.Looks (model X.prog X.w) ((s.heap.push PySem.W.emptyDict).push (PySem.W.instObj C s.heap.objs.size)) (isInstance (.ref (s.heap.objs.size + 1)) (.type "object")) true := t1.andThen (Y.top.keeps fun b o e => Heap.get?_push_of_some _ (Heap.get?_push_of_some _ e))
  refine codeAny_call_builtin PySem.W.oi_plain PySem.W.entry_oi (@PySem.W.check_slot (model X.prog X.w) _ _ _ "object.__init__" "object" "__init__" (.ref (s.heap.objs.size + 1)) [] [] _ PySem.W.oi_kind PySem.W.oi_split t2 (PySem.W.oi_args (.ref (s.heap.objs.size + 1))) ?_)
  rw [PySem.W.oi_run]
  exact wpAny_pure ⟨rfl, ⟨V.ref (s.heap.objs.size + 1), _, I2, rfl, hq⟩⟩
theorem pe_bare0 (M : Bare X.K C) (hg : Gl X x) (hm : X.mg x = some (.ref C)) (hdb : (x == ("__debug__" : Str)) = false) : PE X (.Call (.Name x p) [] [] pos) (tBare C) := by
  refine ⟨fun pins s σ H Q I h => ?_⟩
  refine wpAny_Call_Name_kw (ld_glob I hg hm ?_ hdb)
  exact PySem.W.callWith_K0 I.kIn M.kp (run_bare M I h)
end
/-! ## join_of(b).led(..): an object that lives for one call -/
variable {G : Gx} {W : WX} {H H' H'' H1 H2 : Hp} {z z' z'' z1 z2 : Addr → Prop} {τ τ' t0 : Ty} {d : D} {v : V} {ds : List D} {vs : List V} {m m' m1 m2 m0 mv : Ow} {Γ Γ' Γ'' Γ0 Γ1 Γ2 : TyEnv} {ρ ρ' : Env} {σ σ' : L2.St} {τs ts : List Ty}
theorem Ok.exts (h : Ok H z m) (e : Ext H H') : Ok H' z m := fun a => by
  have o := h a
  refine ⟨o.1, fun q => ⟨(o.2.1 q).1, ?_⟩, fun q => ?_⟩
  · have mu := (o.2.1 q).2
    cases hh : H a with
    | none => rw [hh] at mu; exact mu.elim
    | some u => rw [e a u hh]; rw [hh] at mu; exact mu
  · have := o.2.2 q
    cases hh : H a with
    | none => exact absurd hh this
    | some u => rw [e a u hh]; simp
theorem Stp.exts (h : Stp H z m H1 z1 m1) (e : Ext H1 H2) : Stp H z m H2 z1 m1 where
  keep := fun a o q r => e a o (h.keep a o q r)
  live := fun a q => by
    have := h.live a q
    cases hh : H1 a with
    | none => exact absurd hh this
    | some u => rw [e a u hh]; simp
  zz := h.zz
  dec := h.dec
  ok := h.ok.exts e
/-- a def's promise is used -/
theorem spOf_use {fn : Fun} (r1 : RA G.F H1 z1 τs ds vs mv) (hs : ((τs.zip ts).all fun p => En.sub (fzT p.1) p.2) = true) (hl : τs.length = ts.length) (st1' : Stp H z m H1 z1 m1) (Q : VK) (E : XK)
    (h : (fn ds).post (fun d => ∀ (v : V) (H2 : Hp) (z2 : Addr → Prop) (m2 : Ow), (∀ b, z1 b → z2 b) → Rp G.F H2 z2 (backT τ) d v m2 → Stp H z m H2 z2 (fun a => m1 a + m2 a) → Ext H1 H2 → Q v H2) fun x => ∀ c dx H', XRep G x c dx H' → Ext H1 H' → E c dx H') :
    spOf G ts τ fn vs H1 Q E := by
  have r2 := RA.hand r1 hs hl
  refine ⟨ds, _, r2, fun _ q => q, Res.post_mono h (fun d h v H2 z2 m2 rp st2 => ?_) fun x hx c dx H2 r e2 => hx c dx H2 r e2⟩
  have ex2 := st2.ext0
  have d2 : ∀ a, H1 a ≠ none → m2 a = 0 := fun a e => by have := (st2.dec a e).1; omega
  have st3 : Stp H1 z1 m1 H2 (fun a => z1 a ∨ (z2 a ∧ H1 a = none)) (fun a => m1 a + m2 a) := by
    refine ⟨fun a o e _ => ex2 a o e, st2.live, fun a q => .inl q, fun a e => ⟨by rw [d2 a e]; omega, fun q => ?_⟩, fun a => ?_⟩
    · rcases q with q | ⟨_, q⟩
      · exact .inl q
      · exact absurd q e
    · have o1 := st1'.ok a
      have o2 := st2.ok a
      by_cases hn : H1 a = none
      · have h0 := st1'.ok.zero_at hn
        refine ⟨by omega, fun q => ⟨fun zq => ?_, ?_⟩, fun q => ?_⟩
        · rcases zq with zq | ⟨zq, _⟩
          · exact o1.2.2 zq hn
          · exact (o2.2.1 (by omega)).1 zq
        · exact (o2.2.1 (by omega)).2
        · rcases q with q | ⟨q, _⟩
          · exact absurd hn (o1.2.2 q)
          · exact o2.2.2 q
      · have h0 := d2 a hn
        refine ⟨by omega, fun q => ⟨fun zq => ?_, ?_⟩, fun q => ?_⟩
        · rcases zq with zq | ⟨_, zq⟩
          · exact (o1.2.1 (by omega)).1 zq
          · exact hn zq
        · have mu := (o1.2.1 (by omega)).2
          cases e : H1 a with
          | none => exact absurd e hn
          | some o => rw [ex2 a o e]; rw [e] at mu; exact mu
        · exact st2.live a hn
  exact h v H2 _ m2 (fun _ q => .inl q) (rp.back _) (st1'.trans st3) ex2
def E0 : XK := fun _ _ _ => False
theorem pass0X (X : Cx) : Passes (L2.CX X.prog X.w) X E0 := by
  intro pins σ H s e s' I h
  obtain ⟨a, B, H', cls, d, _, _, _, _, _, _, _, h⟩ := h
  exact h.elim
def bendI (i : Int) : Prop := i = -1 ∨ i = 0 ∨ i = 1
instance (i : Int) : Decidable (bendI i) := by unfold bendI; exact inferInstance
/-- what a maker of objects promises -/
def spJ (cl : Int → Addr) : Sp := fun vs H Q _ => ∃ i : Int, vs = [.int i] ∧ bendI i ∧ ∀ a dx H', H a = none → H' a = some (.ins (cl i) dx []) → Ext H H' → Q (.ref a) H'
/-- what its objects' method promises -/
def spL (G : Gx) (cl : Int → Addr) (ts : List Ty) (τ : Ty) (fl : Int → Fun) : Sp := fun vs H Q E => ∃ (i : Int) (a dx : Addr) (us : List V), bendI i ∧ vs = .ref a :: us ∧ H a = some (.ins (cl i) dx []) ∧ spOf G ts τ (fl i) us H Q E
def ledF (fl : Int → Fun) : Fun := fun ds => match ds with
  | .int i :: r => if bendI i then fl i r else .bad
  | _ => .bad
def LedOk (G : Gx) (lv : Nat) (ts : List Ty) (τ : Ty) (fn : Fun) : Prop :=
  ∃ (cl : Int → Addr) (fl : Int → Fun) (fj : Addr) (fdj : FuncData) (psj : List Str) (kj : Nat) (f : Addr) (fd : FuncData) (ps : List Str) (k : Nat),
    G.mg "join_of" = some (.ref fj) ∧ PySem.W.keepIn G.K (.ref fj) = true ∧ kj ≤ lv ∧ FnOk G.P G.w G.K G.mg G.base (L2.CX G.P G.w) kj fj fdj psj (spJ cl) ∧ Binds G.K fdj psj [] ∧
    (∀ i, bendI i → Cls G.K (cl i) ∧ Meth G.K (cl i) "led" f) ∧ k ≤ lv ∧ FnOk G.P G.w G.K G.mg G.base (L2.CX G.P G.w) k f fd ps (spL G cl ts τ fl) ∧ Binds G.K fd ps [] ∧ fn = ledF fl
def tLed (cl : Int → Addr) (spj spl : Sp) (W : WX) (tb : TE) (ta : TA) : TE := fun σ H Q => ∃ i : Int, bendI i ∧ tMeth (cl i) "led" spl [] E0 (tCallSD spj [] (WE W) (tL [tb])) ta σ H Q
theorem noStar_plain {X : Cx} {es : List Expr} {ts : List TE} {pos : Pos} (h : PEs X es ts) : ((backTo pos (starEach es X.env)).all fun x => !x.1) = true := by
  have := h.plain (pos := pos)
  rw [List.any_eq_false] at this
  rw [List.all_eq_true]
  intro x hx
  have := this x hx
  simpa using this
theorem led_ht {X : Cx} {b x : Expr} {xs : List Expr} {ts : List TE} {p p1 pos apos : Pos} (ea : PEs X (x :: xs) ts) (hn : xs.length ≤ 5) (hl : (apos.endLine == pos.line) = true) :
    eval (.Call (.Attribute (.Call (.Name "join_of" p) [b] [] p1) "led" apos) (x :: xs) [] pos) X.env = (do
      let ov ← eval (.Call (.Name "join_of" p) [b] [] p1) X.env
      standAt apos.atName
      let (f, first) ← holding [ov] (getMethod ov "led" (plainOf (.Call (.Name "join_of" p) [b] [] p1) X.env))
      callWith pos f first (backTo pos (starEach (x :: xs) X.env)) (backToKw pos (keywordEach [] X.env))) := by
  have hf : methodCallForm ((x :: xs).length + ([] : List Keyword).length) (backTo pos (starEach (x :: xs) X.env)) (backToKw pos (keywordEach [] X.env)) = true := by
    unfold methodCallForm
    rw [noStar_plain ea]
    have : (decide ((x :: xs).length + ([] : List Keyword).length + 0 < 30)) = true := by
      rw [decide_eq_true_eq, List.length_cons]
      show xs.length + 1 + 0 + 0 < 30
      omega
    exact this
  have e0 : eval (.Call (.Attribute (.Call (.Name "join_of" p) [b] [] p1) "led" apos) (x :: xs) [] pos) X.env = (do
      let ov ← eval (.Call (.Name "join_of" p) [b] [] p1) X.env
      standAt apos.atName
      methodCall (.Call (.Name "join_of" p) [b] [] p1) "led" apos pos X.env ov ((x :: xs).length + ([] : List Keyword).length) (backTo pos (starEach (x :: xs) X.env)) (backToKw pos (keywordEach [] X.env))) := rfl
  rw [e0]
  congr 1
  funext ov
  rw [mcall_line hf hl]
theorem pe_ledM {X : Cx} {spj spl : Sp} {cl : Int → Addr} {fj f : Addr} {fdj fd : FuncData} {psj ps : List Str} {kj k : Nat} {b x : Expr} {xs : List Expr} {tb : TE} {ts : List TE} {p p1 pos apos : Pos} (tk : Takes X W)
    (Fj : FnOk X.prog X.w X.K X.mg X.base (L2.CX X.prog X.w) kj fj fdj psj spj) (hrj : Room kj X.A) (hgj : Gl X "join_of") (hmj : X.mg "join_of" = some (.ref fj)) (hkj : PySem.W.keepIn X.K (.ref fj) = true) (hbj : Binds X.K fdj psj [])
    (hc : ∀ i, bendI i → Cls X.K (cl i) ∧ Meth X.K (cl i) "led" f) (F : FnOk X.prog X.w X.K X.mg X.base (L2.CX X.prog X.w) k f fd ps spl) (hr : Room k X.A) (hb : Binds X.K fd ps [])
    (hsb : noStar b = true) (eb : PE X b tb) (ea : PEs X (x :: xs) ts) (hn : xs.length ≤ 5) (hl : (apos.endLine == pos.line) = true) :
    PE X (.Call (.Attribute (.Call (.Name "join_of" p) [b] [] p1) "led" apos) (x :: xs) [] pos) (tLed cl spj spl W tb (tL ts)) := by
  refine ⟨fun pins s σ H Q I ⟨i, hi, h⟩ => ?_⟩
  obtain ⟨c, hm⟩ := hc i hi
  have he : PE X (.Call (.Name "join_of" p) [b] [] p1) (tCallSD spj [] (WE W) (tL [tb])) := call_pe Fj hrj hgj hmj hkj hbj .nil (fun σ => passAt tk σ) (by decide) (.cons hsb eb .nil)
  have ht := led_ht (b := b) (p := p) (p1 := p1) (apos := apos) (pos := pos) ea hn hl
  cases ea with
  | cons a1 a2 a3 => exact (pe_meth (m := "led") (apos := apos) (pos := pos) he c hm F hr hb .nil (pass0X X) (PEs.cons a1 a2 a3).pa (star_of a1 _ _) a3.plain ht).run pins s σ H Q I h
theorem EvE.led {tb : TE} {ta : TA} {f : Env → Res D} {g : Env → Res (List D)} {cl : Int → Addr} {fl : Int → Fun} (he : EvE G W tb Γ Γ0 .I f) (ha : EvA G W ta Γ0 Γ1 τs g)
    (hs : ((τs.zip ts).all fun p => En.sub (fzT p.1) p.2) = true) (hl : τs.length = ts.length) :
    EvE G W (tLed cl (spJ cl) (spL G cl ts τ fl) W tb ta) Γ Γ1 (backT τ) fun ρ => (f ρ).bind fun b => (g ρ).noex.bind fun ds => (ledF fl (b :: ds)).noex := by
  intro ρ σ H z m se ok Q h
  rw [Res.post_bind] at h
  cases hf : f ρ with
  | bad => rw [hf] at h; exact h.elim
  | ex x =>
    rw [hf] at h
    refine ⟨0, .inr (.inl rfl), he ρ σ H z m se ok _ ?_⟩
    rw [hf]
    exact h
  | ok d =>
    rw [hf, Res.post_ok] at h
    rw [Res.post_bind] at h
    have h := Res.post_noex _ _ _ (show ((g ρ).noex).post _ _ from h)
    have hd : ∃ i : Int, d = .int i ∧ bendI i := by
      cases hg : g ρ with
      | bad => rw [hg] at h; exact h.elim
      | ex x => rw [hg] at h; exact h.elim
      | ok ds =>
        rw [hg, Res.post_ok] at h
        cases d with
        | int i =>
          by_cases hi : bendI i
          · exact ⟨i, rfl, hi⟩
          · have : ledF fl (.int i :: ds) = .bad := if_neg hi
            rw [this] at h
            exact h.elim
        | _ => exact h.elim
    obtain ⟨i, rfl, hi⟩ := hd
    refine ⟨i, hi, he ρ σ H z m se ok _ ?_⟩
    rw [hf]
    intro v H1 z1 m1 mv se1 r1 st1 ex1
    obtain rfl : v = .int i := Rp.int_inv r1
    refine ⟨i, rfl, hi, fun a dx H2 na ia ex2 => ⟨a, dx, [], rfl, ia, rfl, ?_⟩⟩
    have st1' : Stp H z m H1 z1 m1 := st1.drop fun _ => Nat.le_add_right _ _
    have st2 : Stp H z m H2 z1 m1 := st1'.exts ex2
    have se2 := se1.ext ex2 fun _ q => q
    refine ha ρ σ H2 z1 m1 se2 st2.ok _ (Res.post_mono h (fun ds h vs H3 z3 m3 mw se3 r3 st3 ex3 => ?_) fun _ h => h.elim)
    have e : ledF fl (.int i :: ds) = fl i ds := if_pos hi
    rw [e] at h
    refine ⟨i, a, dx, vs, hi, by simp, ex3 _ _ ia, ?_⟩
    have st3' : Stp H z m H3 z3 m3 := (st2.trans st3).drop fun _ => Nat.le_add_right _ _
    refine spOf_use r3 hs hl st3' Q _ (Res.post_mono (Res.post_noex _ _ _ h) (fun d h v H4 z4 m4 hz rp st4 ex4 => ?_) fun x hx c dx H' _ _ => hx.elim)
    exact h v H4 z4 m3 m4 (se3.ext ex4 hz) rp st4 ((((ex1.trans ex2).trans ex3).trans ex4))
end En

set_option Elab.async false
set_option linter.all false
set_option autoImplicit false
set_option maxRecDepth 100000
set_option maxHeartbeats 1000000
namespace En
open PySem PySem.Spec PyProof.Rows L2 RZ
/-! ## exceptions with a field -/
section
variable {X : Cx} {e : Expr} {es : List Expr} {ta : TA} {p1 p2 pos : Pos} {B : Addr} {mc : Value}
/-- what the written part says of the errors' base class -/
structure BaseC (K : PySem.W.Frag) (B : Addr) : Prop where
  rd : PySem.W.readsIn K B (.type "type") = true
  ga : PySem.W.specialIn K (.ref B) "__getattribute__" = some (some (.builtin "type.__getattribute__"))
  at_ : PySem.W.findCls K (.ref B) (.type "type") "__init__" = some (.val (.builtin "ValueError.__init__"))
/-- SheetError.__init__(self, ..) -/
theorem pe_sinit (hg : Gl X "SheetError") (hm : X.mg "SheetError" = some (.ref B)) (T : BaseC X.K B) (ha : PA X (e :: es) ta)
    (hfew : methodCallForm ((e :: es).length + ([] : List Keyword).length) (backTo pos (starEach (e :: es) X.env)) (backToKw pos (keywordEach [] X.env)) = true) (hline : (p2.endLine == pos.line) = true)
    (he : starEach (e :: es) X.env = (false, eval e X.env) :: starEach es X.env) (hpl : (backTo pos (starEach es X.env)).any (·.1) = false) :
    PE X (.Call (.Attribute (.Name "SheetError" p1) "__init__" p2) (e :: es) [] pos) (tVeI X.K ta) := by
  refine ⟨fun pins s σ H Q I h => ?_⟩
  rw [arm_eval_Call, show attributeBase (.Name "SheetError" p1) "__init__" X.env (eval (.Name "SheetError" p1) X.env) = eval (.Name "SheetError" p1) X.env from rfl]
  refine wpAny_bind (ld_glob I hg hm ?_ (by decide))
  refine wpAny_bind (wpAny_standAt ?_)
  have hpos : methodCallPos true (.Name "SheetError" p1) X.env p2 pos = pure pos := by unfold methodCallPos; simp [hline]
  unfold methodCall
  rw [hfew]
  refine wpAny_bind (wpAny_holding (PySem.W.method_cls I.kIn T.ga (PySem.W.cls_value I.kIn T.rd T.at_ rfl ?_)))
  refine wpAny_bind (wpAny_of_eq hpos ?_)
  show wpAny _ _ (callWith pos (Value.builtin "ValueError.__init__") [] (backTo pos (starEach (e :: es) X.env)) []) _ _ _
  refine PyProof.Rows.callWith_method1 (thn (ha.run pos pins _ σ H _ (I.tok _) h) fun us s1 ⟨vs, H1, I1, r1, a, C, ws, ev, hl, T, ea, q⟩ => ?_) he hpl
  subst ev
  cases r1 with
  | @cons _ u0 _ ur ra rw' =>
    obtain rfl : u0 = Value.ref a := ra
    have hlen : ur.length ≤ sizeLine := by
      rw [← Paired.length rw', sizeLine_eq]
      omega
    exact oinit_ok T I1 ea hlen fun s' J => ⟨.non, H1, J, rfl, q⟩
end
/-- self.f = y, of a fresh exception -/
def spInit (C : Addr) (f : Str) : Sp := fun vs H Q _ => ∃ (a : Addr) (y : V), vs = [.ref a, y] ∧ H a = some (exo a C none) ∧ ∀ dx, H dx = none → dx ≠ a → Q .non (upd (upd H dx (exd dx [(f, y)])) a (exo a C (some dx)))
def okInit (f x : Str) (st : Stmt) : Bool := match defBody st with
  | [.Expr (.Call (.Attribute (.Name b _) m pA) [.Name s0 _, .Constant (.str _) _ _] [] pB) _, .Assign [.Attribute (.Name s1 _) f' _] (.Name x' _) _] => (pA.endLine == pB.line) && b == "SheetError" && m == "__init__" && s0 == "self" && s1 == "self" && f' == f && x' == x && !(x == "self") && decide (x ≠ "__debug__") && decide (x ≠ "__classdict__") && glB (defScope st) "SheetError" && decide ((defScope st).names.lookup ("self" : Str) = some .local) && decide ((defScope st).names.lookup x = some .local)
  | _ => false
theorem init_ok {P : Program} {w : World} {K : PySem.W.Frag} {mg : Str → Option Value} {base : Heap} {qual x f : Str} {st : Stmt} {fI B C : Addr} {fd : FuncData} (Fn : L2.Fun K "__init__" qual st fI fd) (S : FnScope ["self", x] ["self", x] (defScope st)) (T : OexC K C)
    (no : PySem.W.findIn K (.ref C) f = some none) (mS : mg "SheetError" = some (.ref B)) (TB : BaseC K B) (hb : okInit f x st = true) : FnOk P w K mg base (L2.CX P w) 1 fI fd ["self", x] (spInit C f) := by
  refine Fn.okX S (fun vs H Q E h => ?_) fun cdv A outer s H vs Q E hr h => ?_
  · obtain ⟨a, y, rfl, _⟩ := h
    rfl
  · obtain ⟨a, y, rfl, ha, q⟩ := h
    unfold okInit at hb
    split at hb
    · rename_i b p1 m p2 s0 p3 tx kd p4 p5 p6 s1 p7 f' p8 x' p9 p10 eb
      simp only [Bool.and_eq_true, decide_eq_true_eq, beq_iff_eq, Bool.not_eq_true', beq_eq_false_iff_ne] at hb
      obtain ⟨⟨⟨⟨⟨⟨⟨⟨⟨⟨⟨⟨hln, rfl⟩, rfl⟩, rfl⟩, rfl⟩, rfl⟩, rfl⟩, h6⟩, h7⟩, h8⟩, h9⟩, h10⟩, h11⟩ := hb
      rw [eb]
      refine ⟨tSeq (tDrop (tVeI K (tCons (tVar 0) (tCons (tC (.str tx)) tNil)))) (tOst K f' (tVar 0) (tVar 1)), ?_, ?_⟩
      · have hgl : Gl (cxOf (L2.CX P w) P w K mg base ["self", x'] qual (defScope st) fI cdv A outer s H E) "SheetError" := (of_decide_eq_true (show decide ((defScope st).names.lookup ("SheetError" : Str) = some .globalImplicit) = true from h9) : (defScope st).names.lookup ("SheetError" : Str) = some .globalImplicit)
        exact pss_cons (ps_expr (pe_sinit hgl mS TB (pa_cons (pe_var rfl (.inl h10) (by decide) (by decide)) (pa_cons pe_str pa_nil)) rfl (by rw [hln]; exact beq_self_eq_true _) rfl rfl)) (pss_one (ps_ost (pe_var rfl (.inl h10) (by decide) (by decide)) (pe_var rfl (.inl h11) (beq_eq_false_iff_ne.mpr h7) (beq_eq_false_iff_ne.mpr h8))))
      · refine ⟨_, rfl, a, C, [.str tx], rfl, by simp, T, ha, ?_⟩
        exact ⟨_, rfl, _, rfl, a, C, rfl, T, no, .inl ⟨ha, q⟩⟩
    · cases hb
/-- C(e, ..) as a value -/
def tNewO (C : Addr) (sp : Sp) (ta : TA) : TE := fun σ H Q => ta σ H fun vs H1 => vs.length ≤ 1000 ∧ ∀ a, H1 a = none → sp (.ref a :: vs) (upd H1 a (exo a C none)) (fun v H2 => v = .non ∧ Q (.ref a) H2) (fun _ _ _ => False)
section
variable {X : Cx} {e : Expr} {es : List Expr} {ta : TA} {p pos apos : Pos} {CX : CXT} {x f : Str} {C fI : Addr} {k : Nat} {fd : FuncData} {ps : List Str} {sp : Sp}
theorem pe_oex (T : OexC X.K C) (iC : PySem.W.findIn X.K (.ref C) "__init__" = some (some (.ref fI))) (tI : PySem.W.typeIn X.K (.ref fI) = some (.type "function"))
    (F1 : FnOk X.prog X.w X.K X.mg X.base CX k fI fd ps sp) (hr : Room (k + 1) X.A) (hb : Binds X.K fd ps []) (hx : Passes CX X (fun _ _ _ => False)) (hg : Gl X x) (hm : X.mg x = some (.ref C)) (ha : PA X (e :: es) ta)
    (hdb : (x == ("__debug__" : Str)) = false) (he : starEach (e :: es) X.env = (false, eval e X.env) :: starEach es X.env) (hpl : (backTo pos (starEach es X.env)).any (·.1) = false) :
    PE X (.Call (.Name x p) (e :: es) [] pos) (tNewO C sp ta) := by
  refine ⟨fun pins s σ H Q I h => ?_⟩
  obtain ⟨nm, q, N, bs, bm, sn, sub, ab, col, dd, k0, k1, k2, k3, k5, hC, hbm⟩ := T.cls
  refine wpAny_Call_Name_kw (ld_glob I hg hm ?_ hdb)
  refine PySem.W.callWith_K (h₀ := X.base) I.ok.mod.kin T.kC (thn (ha.run pos pins s σ H _ I h) fun us s1 ⟨vs, H1, I1, r1, hz, q1⟩ => ⟨I1.kIn, ?_⟩) he hpl
  show wpAny _ _ (call (.ref C) us) _ _ _
  obtain ⟨hp, g, dr, tk, os⟩ := s1
  have hsz : hp.objs.size ≤ hp.objs.size + 1 := Nat.le_succ _
  have hn : H1 (hp.objs.size + 1) = none := I1.hok.fresh hsz
  have hq := q1 (hp.objs.size + 1) hn
  have kk : ∀ b o, hp.get? b = some o → ((hp.push (PySem.W.kdv_tup us)).push (PySem.HandSPX.excO C hp.objs.size)).get? b = some o := fun b o e => Heap.get?_push_of_some _ (Heap.get?_push_of_some _ e)
  have hget : ((hp.push (PySem.W.kdv_tup us)).push (PySem.HandSPX.excO C hp.objs.size)).get? (hp.objs.size + 1) = some (PySem.HandSPX.excO C hp.objs.size) := by heap_get
  have I2 : Inv X pins σ (upd H1 (hp.objs.size + 1) (exo (hp.objs.size + 1) C none)) ⟨(hp.push (PySem.W.kdv_tup us)).push (PySem.HandSPX.excO C hp.objs.size), g, dr, tk, os⟩ :=
    I1.laid (t' := tk) (a := hp.objs.size + 1) (o := exo (hp.objs.size + 1) C none) (h' := (hp.push (PySem.W.kdv_tup us)).push (PySem.HandSPX.excO C hp.objs.size)) kk hsz (exo_ok hget)
  have r2 : Vals (V.ref (hp.objs.size + 1) :: vs) (Value.ref (hp.objs.size + 1) :: us) := .cons rfl r1
  have hus : us.length ≤ sizeLine := by
    rw [← Paired.length r1, sizeLine_eq]
    omega
  have hl : (Value.ref (hp.objs.size + 1) :: us).length = ps.length := by
    have e := r2.length
    rw [F1.len _ _ _ _ hq] at e
    exact e.symm
  refine wpAny_call (PySem.HandSPX.call_own F.excBase_ValueError (fun Y => PySem.HandSPX.refsVE_contains Y bm hbm) (I1.kIn _ _ hC) (PySem.W.looks_findIn I1.kIn iC) (fun self => PySem.W.bind_fn I1.kIn self tI) hus
    (codeAny_mono (F1.run _ X.stack _ _ ⟨Value.ref (hp.objs.size + 1) :: us, []⟩ (Value.ref (hp.objs.size + 1) :: us) _ _ (fun _ _ _ => False) (hr.make C us []) (I2.env0.make C us []) (by have := hb _ (Value.ref (hp.objs.size + 1) :: us) I2.kIn (by simpa using hl); simpa using this) r2 hq) fun r s' hq' => ?_))
  cases r with
  | error er => exact hx pins σ _ _ er s' I2 hq'
  | ok fl =>
    cases fl with
    | ret u =>
      obtain ⟨v, H2, os2, bare2, un2, hok2, rv, ev, q2⟩ := hq'
      subst ev
      exact ⟨rv, .ref (hp.objs.size + 1), H2, I2.call' (ch := []) os2 un2 hok2 bare2 (fun b z => absurd z (by simp)), rfl, q2⟩
    | next => exact False.elim hq'
    | brk => exact False.elim hq'
    | cont => exact False.elim hq'
/-- C(e).f, f the field that __init__ stores -/
def tMkV (C : Addr) (f : Str) (te : TE) : TE := fun σ H Q => tNewO C (spInit C f) (tL [te]) σ H fun v H2 => ∃ (a dx : Addr) (y : V), v = .ref a ∧ H2 a = some (exo a C (some dx)) ∧ H2 dx = some (exd dx [(f, y)]) ∧ Q y H2
theorem pe_mkv {te : TE} (T : OexC X.K C) (TX : XfC X.K C) (no : PySem.W.findIn X.K (.ref C) f = some none) (iC : PySem.W.findIn X.K (.ref C) "__init__" = some (some (.ref fI))) (tI : PySem.W.typeIn X.K (.ref fI) = some (.type "function"))
    (F1 : FnOk X.prog X.w X.K X.mg X.base CX k fI fd ps (spInit C f)) (hr : Room (k + 1) X.A) (hb : Binds X.K fd ps []) (hx : Passes CX X (fun _ _ _ => False)) (hg : Gl X x) (hm : X.mg x = some (.ref C)) (he : PE X e te)
    (hdb : (x == ("__debug__" : Str)) = false) (hs : starEach [e] X.env = (false, eval e X.env) :: starEach [] X.env) :
    PE X (.Attribute (.Call (.Name x p) [e] [] pos) f apos) (tMkV C f te) := by
  refine ⟨fun pins s σ H Q I h => ?_⟩
  refine attr_of rfl (thn ((pe_oex T iC tI F1 hr hb hx hg hm (pa_cons he pa_nil hs) hdb hs rfl).run pins s σ H _ I h) fun u s1 hh => ?_)
  obtain ⟨v, H1, I1, rx, a, dx, y, rfl, ea, ed, q⟩ := hh
  obtain rfl : u = Value.ref a := rx
  obtain ⟨t1, ho⟩ := exo_at I1.hok ea
  obtain ⟨mA, hns, hrel⟩ := exd_at I1.hok ed
  obtain ⟨od, hod, hl⟩ := lookIn_ns hns
  obtain ⟨u, hu, ru⟩ := RelO.some_of (v := y) (o := mA f) (by have := hrel f; rw [lookup_put, if_pos rfl] at this; exact this)
  have J : PySem.W.InstAt s1.heap a _ C (some od) := ⟨ho, rfl, rfl, hod⟩
  exact HandSPX.exc_get I1.kIn J TX.ga TX.gg TX.exC (PySem.W.findObj_own TX.hdC no rfl (by rw [hl, hu])) (handed_of ru) ⟨y, H1, I1.tok _, ru, q⟩
end
/-! what is raised, what is made -/
structure MkW (G : Gx) (lv : Nat) (n f : Str) : Prop where
  ok : ∃ (C fI : Addr) (fd : FuncData) (x : Str), G.mg n = some (.ref C) ∧ OexC G.K C ∧ PySem.W.findIn G.K (.ref C) "__init__" = some (some (.ref fI)) ∧ PySem.W.typeIn G.K (.ref fI) = some (.type "function") ∧ 2 ≤ lv ∧
    FnOk G.P G.w G.K G.mg G.base (L2.CX G.P G.w) 1 fI fd ["self", x] (spInit C f) ∧ Binds G.K fd ["self", x] [] ∧ XfC G.K C ∧ PySem.W.findIn G.K (.ref C) f = some none
def tRaiseW (C : Addr) (f : Str) (W : WX) (te : TE) : TS := fun _ σ H => tMkO C (spInit C f) [] (tL [te]) σ H fun cls d H' => W cls d σ H'
section
variable {G : Gx} {W : WX} {τ τr : Ty} {Γ Γ' Γ1 Γb : TyEnv} {n f : Str} {C : Addr} {te : TE} {fe : Env → Res D}
theorem EvS.raiseW (he : EvE G W te Γ Γ1 τ fe) (hm : G.mg n = some (.ref C)) :
    EvS G W true (tRaiseW C f W te) Γ Γ' Γb τr fun ρ => (fe ρ).fl fun d => if imm d then .ex ⟨n, some (f, d)⟩ else .bad := by
  intro ρ σ H z m se ok Dn h
  dsimp only at h
  refine he ρ σ H z m se ok _ (Res.post_mono (post_fl h) (fun d h v H1 z1 m1 mv se1 r1 st1 ex1 => ?_) fun _ h => h)
  by_cases hd : imm d = true
  case neg => rw [if_neg hd] at h; exact h.elim
  rw [if_pos hd] at h
  refine ⟨by simp, fun a ha => ⟨a, v, rfl, upd_same, fun dx hdx hne => ?_⟩⟩
  have hdx' : H1 dx = none := by rw [upd_ne hne] at hdx; exact hdx
  refine ⟨rfl, dx, [(f, v)], upd_same, by rw [upd_ne hne]; exact upd_same, hdx', ?_⟩
  have ext : Ext H1 (upd (del (upd (upd (upd H1 a (exo a C none)) dx (exd dx [(f, v)])) a (exo a C (some dx))) a) dx (.xd [(f, v)])) := fun b o e => by
    have b1 : b ≠ dx := ne_of_none e hdx'
    have b2 : b ≠ a := ne_of_none e ha
    rw [upd_ne b1, del_ne b2, upd_ne b2, upd_ne b1, upd_ne b2]
    exact e
  exact h (.ref C) (some dx) _ ⟨hm, dx, v, rfl, upd_same, (r1.imm hd fun _ => False).ext ext fun _ q => q⟩ (ex1.trans ext)
theorem EvE.xmk (he : EvE G W te Γ Γ1 τ fe) : EvE G W (tMkV C f te) Γ Γ1 τ fe := by
  intro ρ σ H z m se ok Q h
  refine he ρ σ H z m se ok _ (Res.post_mono h (fun d h v H1 z1 m1 mv se1 r1 st1 ex1 => ?_) fun _ h => h)
  refine ⟨by simp, fun a ha => ⟨a, v, rfl, upd_same, fun dx hdx hne => ?_⟩⟩
  have hdx' : H1 dx = none := by rw [upd_ne hne] at hdx; exact hdx
  refine ⟨rfl, a, dx, v, rfl, upd_same, by rw [upd_ne hne]; exact upd_same, ?_⟩
  have e : upd (upd (upd H1 a (exo a C none)) dx (exd dx [(f, v)])) a (exo a C (some dx)) = upd (upd H1 dx (exd dx [(f, v)])) a (exo a C (some dx)) := by
    funext b
    unfold upd
    by_cases hb : b = a
    · rw [if_pos hb, if_pos hb]
    · rw [if_neg hb, if_neg hb, if_neg hb]
  rw [e]
  have ha' : upd H1 dx (exd dx [(f, v)]) a = none := by rw [upd_ne (Ne.symm hne)]; exact ha
  have ext : Ext H1 (upd (upd H1 dx (exd dx [(f, v)])) a (exo a C (some dx))) := (Ext.new hdx').trans (Ext.new ha')
  exact h v _ z1 m1 mv (se1.ext ext fun _ q => q) (r1.ext ext fun _ q => q) ((st1.ext hdx').ext ha') (ex1.trans ext)
end
end En

set_option Elab.async false
set_option linter.all false
set_option autoImplicit false
set_option maxRecDepth 100000
set_option maxHeartbeats 1000000
namespace En
open PySem PySem.Spec PyProof.Rows L2 RZ

/-! ## an exception in hand: pinned, read, handed to a def -/
/-- what an exception's class must say of reading -/
structure ExcK (K : PySem.W.Frag) (C : Addr) : Prop where
  cl : (PySem.W.clsIn K C).isSome = true
  ga : PySem.W.findIn K (.ref C) "__getattribute__" = some (some (.builtin "BaseException.__getattribute__"))
  gg : PySem.W.findIn K (.ref C) "__getattr__" = some none
  sb : PySem.W.subIn K (.ref C) (.type "BaseException") = some true
  ca : PySem.W.findIn K (.ref C) "__class__" = some (some (.builtin "object.__class__"))
  cn : PySem.W.specialIn K (.builtin "object.__class__") "__get__" = some (some (.builtin "getset_descriptor.__get__"))
  ct : PySem.W.takesIn K (.builtin "object.__class__") = some true
  cm : PySem.W.mroIn K C (.type "object") = some true
  hd : PySem.W.hasDictIn K C = true
theorem ExcK.x {K : PySem.W.Frag} {C : Addr} (h : ExcK K C) : XfC K C := ⟨h.ga, h.gg, h.sb, h.hd⟩
/-- the exception p is pinned in X: its class, its dict -/
structure Pinned (X : Cx) (p : Addr × Obj) (C : Addr) (d : Option Addr) : Prop where
  mem : p ∈ X.pn
  cls : Zc (.ref C) d p.2
  fld : ∃ vs, p.2.data = .fields vs
def dOk (H : Hp) (d : Option Addr) : Prop := d = none ∨ ∃ dd fs, d = some dd ∧ H dd = some (.xd fs)
theorem Pinned.inst {X : Cx} {p : Addr × Obj} {C : Addr} {d : Option Addr} {pins : List (Addr × Obj)} {σ : L2.St} {H : Hp} {s : Shared} (P : Pinned X p C d) (I : Inv X pins σ H s) (hd : dOk H d) : ∃ od, PySem.W.InstAt s.heap p.1 p.2 C od := by
  obtain ⟨h1, _⟩ := I.pin p (List.mem_append_left _ P.mem)
  obtain ⟨vs, hv⟩ := P.fld
  obtain ⟨c1, c2⟩ := P.cls
  have nc : PySem.W.notCls p.2 = true := by unfold PySem.W.notCls; rw [hv] <;> rfl
  rcases hd with rfl | ⟨dd, fs, rfl, e⟩
  · exact ⟨none, h1, c1, nc, by rw [c2]; trivial⟩
  · obtain ⟨mA, hns, hr⟩ := (show ObjOk X.prog X.w H s.heap dd (.xd fs) from I.hok dd _ e)
    obtain ⟨o, ho, _⟩ := lookIn_ns hns
    exact ⟨some o, h1, c1, nc, by rw [c2]; exact ho⟩
/-- isinstance(e, c), e in hand -/
def rIsP (K : PySem.W.Frag) (a C : Addr) (d : Option Addr) : List V → Hp → VK → Prop := fun xs H Q => ∃ (c : V) (b : Bool), xs = [.ref a, c] ∧ dOk H d ∧
  ((∃ u, ClsV c u ∧ PySem.W.kitOne K (.ref C) u = some b) ∨ ∃ tp cs us, c = .ref tp ∧ H tp = some (.tup cs) ∧ Paired ClsV cs us ∧ PySem.W.kitAny K (.ref C) us = some b) ∧ Q (.bl b) H
theorem call_isP {X : Cx} {p : Addr × Obj} {C : Addr} {d : Option Addr} (T : ExcK X.K C) (P : Pinned X p C d) : CallR X (.builtin "isinstance") (rIsP X.K p.1 C d) := by
  intro pins s σ H xs us Q I r h
  obtain ⟨c, b, rfl, hd, h, q⟩ := h
  obtain ⟨od, J⟩ := P.inst I hd
  obtain ⟨u1, u2, rfl, r1, r2⟩ := vals2 r
  cases (show u1 = Value.ref p.1 from r1)
  have Z : PySem.W.KitX X.K (.ref p.1) (.ref C) (fun h => PySem.W.InstAt h p.1 p.2 C od) := PySem.W.kitx_exc T.cl T.ga T.gg T.sb T.ca T.cn T.ct T.cm
  rcases h with ⟨u, k, e⟩ | ⟨tp, cs, ws, rfl, hT, k, e⟩
  · have e2 := k.eq r2
    subst e2
    exact PySem.W.kia_one Z I.kIn J e (fun z => nomatch z) fun tk => ⟨.bl b, H, I.tok tk, rfl, q⟩
  · cases (show u2 = Value.ref tp from r2)
    obtain ⟨_, its, rv, o, h1, h2, n, h3⟩ := (show ObjOk X.prog X.w H s.heap tp (.tup cs) from I.hok tp _ hT)
    have e3 := ClsV.all k rv
    subst e3
    obtain ⟨oc, odd, dt, sl⟩ := o
    simp only at h2 h3
    subst h2 h3
    exact PySem.W.kia_tup Z I.kIn J h1 e (fun z => nomatch z) fun tk => ⟨.bl b, H, I.tok tk, rfl, q⟩
/-- e.f, e in hand -/
def tFld (a : Addr) (d : Option Addr) (f : Str) (te : TE) : TE := fun σ H Q => te σ H fun x H1 => x = .ref a ∧ ∃ (dd : Addr) (fs : List (Str × V)) (v : V), d = some dd ∧ H1 dd = some (.xd fs) ∧ fs.lookup f = some v ∧ Q v H1
theorem pe_fld {X : Cx} {p : Addr × Obj} {C : Addr} {d : Option Addr} {e : Expr} {te : TE} {pos : Pos} {n : Str} (T : ExcK X.K C) (P : Pinned X p C d) (hno : PySem.W.findIn X.K (.ref C) n = some none) (he : PE X e te)
    (hb : attributeBase e n X.env (eval e X.env) = eval e X.env) : PE X (.Attribute e n pos) (tFld p.1 d n te) := by
  refine ⟨fun pins s σ H Q I w => ?_⟩
  refine attr_of hb (thn (he.run pins s σ H _ I w) fun u s1 w1 => ?_)
  obtain ⟨x, H1, J1, rx, ex, dd, fs, v, ed, ea, lk, q⟩ := w1
  subst ex ed
  cases (show u = Value.ref p.1 from rx)
  have pin1 := (J1.pin p (List.mem_append_left _ P.mem)).1
  obtain ⟨vs, hv⟩ := P.fld
  obtain ⟨mA, hns, hr⟩ := (show ObjOk X.prog X.w H1 s1.heap dd (.xd fs) from J1.hok dd _ ea)
  obtain ⟨o, ho, hl⟩ := lookIn_ns hns
  obtain ⟨y, hy, ry⟩ := RelO.some_of (v := v) (o := mA n) (by rw [← lk]; exact hr n)
  have inst : PySem.W.InstAt s1.heap p.1 p.2 C (some o) := ⟨pin1, P.cls.1, by unfold PySem.W.notCls; rw [hv] <;> rfl, by rw [P.cls.2]; exact ho⟩
  exact HandSPX.exc_get J1.kIn inst T.ga T.gg T.sb (PySem.W.findObj_own T.hd hno rfl (by rw [hl, hy])) (handed_of ry) ⟨v, H1, J1.tok _, ry, q⟩

/-! ### a def that is handed the exception -/
abbrev SpP := Addr × Obj → Hp → VK → Prop
structure FnP (P : Program) (w : World) (K : PySem.W.Frag) (mg : Str → Option Value) (base : Heap) (k : Nat) (f : Addr) (fd : FuncData) (ps : List Str) (sp : SpP) : Prop where
  run : ∀ (A : Around) (outer : List PySem.Env) (s : Shared) (H : Hp) (args : Args) (Q : VK) (p : Addr × Obj), L2H.RoomH k A → L2H.PinOk outer H s p → Env0 P w K mg base A outer s H → BindsTo s fd args (ps.zip [Value.ref p.1]) → sp p H Q →
    codeAny (model P w) A (.call (.ref f) args) (CR (L2.CX P w) outer P w H s Q (fun _ _ _ => False)) s
theorem FnP.mk' {P : Program} {w : World} {K : PySem.W.Frag} {mg : Str → Option Value} {base : Heap} {k : Nat} {f : Addr} {name qual : Str} {params : Arguments} {body : List Stmt} {scope : Scope} {dV kV doc pm cdv ct oc : Value} {an od : Option Addr}
    {osl : Array (Option Value)} {N : List Str} {y : Str} {sp : SpP} (lk : K.lookup f = some ⟨oc, od, .func (PySem.W.fnOf name qual params body scope dV kV doc pm an cdv ct), osl⟩) (hcd : PySem.W.codeIn K cdv qual = true) (S : FnScope N [y] scope)
    (hbody : ∀ (A : Around) (outer : List PySem.Env) (s : Shared) (H : Hp) (Q : VK) (p : Addr × Obj), L2H.RoomH k (A.deeper (envOfC qual scope s.heap.objs.size f cdv)) → sp p H Q →
      ∃ t, PSs (L2H.cxH (L2.CX P w) P w K mg base N qual scope f cdv A outer s H (fun _ _ _ => False) p) body t ∧ t { nx := fun _ H' => Q .non H', rt := Q } (L2.start N [.ref p.1]) H) :
    FnP P w K mg base (k + 1) f (PySem.W.fnOf name qual params body scope dV kV doc pm an cdv ct) [y] sp := by
  refine ⟨fun A outer s H args Q p room pin e0 bd hsp => ?_⟩
  have kin : K.In s.heap := e0.mod.kin.keeps fun b o e => (e0.bs b o e).1
  have nolim : s.heap.NoLimit := e0.mod.nolimit.keeps fun b o e => (e0.bs b o e).1
  have names : ∀ z ∈ [y].zip [Value.ref p.1], scope.names.lookup z.1 = some .local ∨ (scope.names.lookup z.1 = some .cell ∧ ((cellsFrom (s.heap.objs.size + 1) scope.names []).lookup z.1).isSome = true) := fun ⟨n, v⟩ hz => by
    rcases S.par n (List.of_mem_zip hz).1 with q | q
    · exact .inl q
    · exact .inr ⟨q, PySem.W.cellsFrom_some _ _ _ (.inl q)⟩
  refine codeAny_call_function room.depth (kin _ _ lk) rfl S.co S.gen rfl (PySem.W.codeRec_of kin hcd) (bd _ _ _ _ ?_)
  refine wpAny_newFunctionEnv_cells S.kind names fun env he s1 x => ?_
  subst he
  refine ⟨nolim.keeps x.toInCall.keep, codeAny_func ?_⟩
  obtain ⟨t, ht, hq⟩ := hbody A outer s H Q p (room.deeper _) hsp
  have J : Inv (L2H.cxH (L2.CX P w) P w K mg base N qual scope f cdv A outer s H (fun _ _ _ => False) p) [] (L2.start N [.ref p.1]) H s1 := L2H.inv_startH S pin e0 rfl (.cons rfl .nil) x
  refine wpAny_mono (ht.run [] s1 _ H _ J hq) (fun fl s' w => ?_) fun e s' w => w
  cases fl with
  | ret u =>
    obtain ⟨v, σ', H', J', rv, q⟩ := w
    exact ⟨v, H', J'.os, J'.bare, J'.base, J'.hok, rv, q⟩
  | next =>
    obtain ⟨σ', H', J', q⟩ := w
    exact ⟨V.non, H', J'.os, J'.bare, J'.base, J'.hok, rfl, q⟩
  | brk =>
    obtain ⟨_, _, _, q⟩ := w
    exact q.elim
  | cont =>
    obtain ⟨_, _, _, q⟩ := w
    exact q.elim
def tCallP (p : Addr × Obj) (sp : SpP) (te : TE) : TE := fun σ H Q => te σ H fun v H1 => v = .ref p.1 ∧ sp p H1 Q
theorem pe_callP {X : Cx} {p : Addr × Obj} {k : Nat} {f : Addr} {fd : FuncData} {ps : List Str} {sp : SpP} {x : Str} {q pos : Pos} {e : Expr} {te : TE} (F : FnP X.prog X.w X.K X.mg X.base k f fd ps sp) (hr : L2H.RoomH k X.A) (hp : p ∈ X.pn) (hg : Gl X x) (hm : X.mg x = some (.ref f)) (hk : PySem.W.keepIn X.K (.ref f) = true)
    (hl : ps.length = 1) (hb : Binds X.K fd ps []) (he : PE X e te) (hdb : (x == ("__debug__" : Str)) = false) (hs : starEach [e] X.env = (false, eval e X.env) :: starEach [] X.env) : PE X (.Call (.Name x q) [e] [] pos) (tCallP p sp te) := by
  refine ⟨fun pins s σ H Q I w => ?_⟩
  refine wpAny_Call_Name_kw (ld_glob I hg hm ?_ hdb)
  have ha : PA X [e] (tCons te tNil) := pa_cons he pa_nil hs
  refine PySem.W.callWith_K (h₀ := X.base) I.ok.mod.kin hk (thn (ha.run pos pins s σ H (fun vs H1 => match vs with | [v] => v = V.ref p.1 ∧ sp p H1 Q | _ => False) I (?_)) fun us s1 w1 => ?_) hs (by rfl)
  · exact w
  · obtain ⟨vs, H1, I1, r, w1⟩ := w1
    refine ⟨I1.kIn, ?_⟩
    cases r with
    | nil => exact w1.elim
    | cons ru rr =>
    cases rr with
    | cons _ _ => exact w1.elim
    | nil =>
    rename_i v u
    obtain ⟨rfl, q1⟩ := w1
    cases (show u = Value.ref p.1 from ru)
    have b := hb s1 [Value.ref p.1] I1.kIn (by rw [List.append_nil]; exact hl.symm)
    rw [List.append_nil] at b
    have P1 := I1.pin p (List.mem_append_left _ hp)
    have pin : L2H.PinOk X.stack H1 s1 p := ⟨P1.1, P1.2.1, fun hm => (List.mem_cons.mp (I1.stkSub p.1 hm)).elim P1.2.2.1 P1.2.2.2.1, P1.2.2.2.2⟩
    refine wpAny_call (codeAny_mono (F.run X.A X.stack s1 H1 ⟨[Value.ref p.1], []⟩ Q p hr pin I1.env0 b q1) fun r s' w2 => ?_)
    cases r with
    | error e =>
      obtain ⟨a, B, H', cls, d, _, _, _, _, _, _, _, z⟩ := w2
      exact z.elim
    | ok fl =>
      cases fl with
      | ret u => exact I1.after w2
      | next => exact w2.elim
      | brk => exact w2.elim
      | cont => exact w2.elim

/-! ### what a text says of exceptions -/
structure XT where
  cls : List Str
  nms : List Str
  kit : List (Str × Str × Bool)
  exm : List (Str × Str × Bool)
  flds : List (Str × Str)
  mks : List Str
  fns : List (Str × Nat × XB × Bool)
  mkws : List (Str × Str)
def spX (G : Gx) (cls : List Str) (τ : Ty) (g : Exc → XFl) : SpP := fun p H Q => ∃ (x : Exc) (C : Addr) (d : Option Addr) (z : Addr → Prop), x.cls ∈ cls ∧ Zc (.ref C) d p.2 ∧ (∃ vs, p.2.data = .fields vs) ∧ XRep G x (.ref C) d H ∧ (∀ a, z a → H a ≠ none) ∧
  ∃ y, g x = .rt y ∧ ∀ (v : V) (H' : Hp) (z' : Addr → Prop) (m' : Ow), Rp G.F H' z' τ y v m' → Stp H z (fun _ => 0) H' z' m' → Q v H'
def xTy (l : Bool) : Ty := if l then .N .o .I else .I
/-- a class by its name: as it is read, as it stands -/
def NmV (G : Gx) (m : Str) (v : V) (u : Value) : Prop := (∃ D, G.mg m = some (.ref D) ∧ v = .ref D ∧ u = .ref D) ∨ (m = "ValueError" ∧ v = .ty "ValueError" ∧ u = .type "ValueError")
theorem NmV.cls {G : Gx} {m : Str} {v : V} {u : Value} (h : NmV G m v u) : ClsV v u := by
  rcases h with ⟨D, _, rfl, rfl⟩ | ⟨_, rfl, rfl⟩
  · exact .own D
  · exact .ty _
structure XOkF (G : Gx) (lv : Nat) (e : XT) : Prop where
  own : ∀ n ∈ e.cls, ∃ C, G.mg n = some (.ref C) ∧ ExcK G.K C
  nm : ∀ m ∈ e.nms, ∃ v u, NmV G m v u
  kit : ∀ n m b, (n, m, b) ∈ e.kit → ∃ C v u, G.mg n = some (.ref C) ∧ NmV G m v u ∧ PySem.W.kitOne G.K (.ref C) u = some b
  exm : ∀ n m b, (n, m, b) ∈ e.exm → ∃ C D, G.mg n = some (.ref C) ∧ G.mg m = some (.ref D) ∧ PySem.W.exmOne G.K (.ref C) (.ref D) = some b
  fld : ∀ n f, (n, f) ∈ e.flds → ∃ C, G.mg n = some (.ref C) ∧ PySem.W.findIn G.K (.ref C) f = some none
  mkx : ∀ n ∈ e.mks, ∃ C bmB B newId initId, G.mg n = some (.ref C) ∧ PySem.W.keepIn G.K (.ref C) = true ∧ ExcBaseFacts B newId initId bmB ∧ PySem.W.excIn G.K C bmB newId = true ∧ PySem.W.subIn G.K (.ref C) (.type "BaseException") = some true ∧ PySem.W.typeIn G.K (.ref C) = some (.type "type")
  fn : ∀ f n fb l, (f, n, fb, l) ∈ e.fns → ∃ a fd ps k, G.mg f = some (.ref a) ∧ PySem.W.keepIn G.K (.ref a) = true ∧ ps.length = 1 ∧ Binds G.K fd ps [] ∧ k ≤ lv ∧ FnP G.P G.w G.K G.mg G.base k a fd ps (spX G e.cls (xTy l) fun x => xrun x fb (List.replicate n .none))
  mkw : ∀ n f, (n, f) ∈ e.mkws → MkW G lv n f
def XT.none : XT := ⟨[], [], [], [], [], [], [], []⟩
theorem XOkF.none {G : Gx} {lv : Nat} : XOkF G lv XT.none where
  own := fun n h => absurd h List.not_mem_nil
  nm := fun n h => absurd h List.not_mem_nil
  kit := fun n m b h => absurd h List.not_mem_nil
  exm := fun n m b h => absurd h List.not_mem_nil
  fld := fun n f h => absurd h List.not_mem_nil
  mkx := fun n h => absurd h List.not_mem_nil
  fn := fun f n fb l h => absurd h List.not_mem_nil
  mkw := fun n f h => absurd h List.not_mem_nil
end En

set_option Elab.async false
set_option linter.all false
set_option autoImplicit false
set_option maxRecDepth 100000
namespace En
open PySem PySem.Spec PyProof.Rows L2 RZ

/-! ## the check of an expression: its text, its type -/
structure FI where
  N : List Str
  calls : List (Str × List Ty × Ty × List (List Kt))
  gs : List (Str × Ty)
  ex : XT
  led : Option (Nat × List Ty × Ty)
  ms : List (Str × Nat × Ty × List Ty)
def dbg (x : Str) : Bool := x == ("__debug__" : Str)
def slotB (N : List Str) (sc : Scope) (i : Nat) (x : Str) : Bool :=
  decide (N[i]? = some x) && (match sc.names.lookup x with
    | some .local => true
    | some .cell => true
    | some .free => true
    | _ => false) && !dbg x && !(x == ("__classdict__" : Str))
/-- a target's name in a comprehension's block: its own, there and in the block as it runs -/
def tgNm (N : List Str) (scope sc : Scope) (i : Nat) (x : Str) : Bool :=
  decide (N[i]? = some x) && (decide ((relS scope sc).names.lookup x = some .local) || (decide ((relS scope sc).names.lookup x = some .cell) && decide (scope.names.lookup x = some .cell)))
def tgNms (N : List Str) (scope sc : Scope) : List Nat → List Expr → Bool
  | [], [] => true
  | i :: is, .Name x _ :: es => tgNm N scope sc i x && tgNms N scope sc is es
  | _, _ => false
def tgB (N : List Str) (scope sc : Scope) : Tg → Expr → Bool
  | .s i, .Name x _ => tgNm N scope sc i x
  | .t is, .Tuple es _ _ => tgNms N scope sc is es
  | _, _ => false
def ownN (N : List Str) (tg : Tg) : List (Str × Nat) := tg.slots.map fun i => (N.getD i "", i)
def cEq : Kt → Const → Bool
  | .non, .none => true
  | .bool a, .bool b => a == b
  | .int a, .int b => decide (a = b)
  | .str a, .str b => decide (a = b)
  | _, _ => false
def lubs : List Ty → Ty
  | [] => .I
  | t :: ts => lub t (lubs ts)
def noIf : Expr → Bool
  | .IfExp _ _ _ _ => false
  | _ => true
def noSet : Expr → Bool
  | .Set _ _ _ => false
  | _ => true
def isTuple : Expr → Bool
  | .Tuple _ _ _ => true
  | _ => false
def dictOp : Op → Bool
  | .cnt => true
  | _ => false
/-- the methods that are told -/
def mtNm : Op → Option (Kd × Str)
  | .idx => some (.list, "index")
  | .cnt => some (.list, "count")
  | .dget1 => some (.dict, "get")
  | .dget2 => some (.dict, "get")
  | _ => none
def mtAr : Op → Nat
  | .idx => 1
  | .cnt => 1
  | .dget1 => 1
  | .dget2 => 2
  | _ => 0
def pathOf : Expr → Option (Str × Pos × List (Expr × Pos))
  | .Name x p => some (x, p, [])
  | .Subscript e k p => match pathOf e with
    | some (x, q, ks) => if noSlice k then some (x, q, ks ++ [(k, p)]) else none
    | none => none
  | _ => none
def cmpOf : Op → Option CmpOp
  | .lt => some .Lt
  | .le => some .LtE
  | .gt => some .Gt
  | .ge => some .GtE
  | _ => none
def callT (F : FI) (j : Nat) (x : Str) (τs : List Ty) (ks : List Kt) : Option Ty := match F.calls[j]? with
  | some (y, ts, t, dfs) => if y = x ∧ ks ∈ dfs ∧ (((τs ++ ks.map fun _ => Ty.I).zip ts).all fun p => sub (fzT p.1) p.2) = true ∧ τs.length + ks.length = ts.length then some (backT t) else none
  | none => none
def inB (Γ : TyEnv) (is : List Nat) : Bool := is.all fun i => decide (i < Γ.length)
/-- the rows of the dict in a slot, by the text -/
def rowB (F : FI) (it : Bool) (i : Nat) (sc : Scope) (tgx : Expr) : Expr → Bool
  | .Name x _ => !it && slotB F.N sc i x
  | .Call (.Attribute (.Name x _) nm apos) [] [] cpos => it && slotB F.N sc i x && decide (nm = "items") && (apos.endLine == cpos.line) && isTuple tgx
  | _ => false
def rowT (F : FI) (it : Bool) (i : Nat) (sc : Scope) (fz : Bool) (Γ : TyEnv) (tgx x : Expr) : Option Ty := match Γ[i]? with
  | some (some (.N .f t)) => if rowB F it i sc tgx x = true ∧ t.no = true ∧ okT fz t = true then some (if it then t else .I) else none
  | _ => none
mutual
def ckE (F : FI) : E → Scope → TyEnv → Expr → Option (Ty × TyEnv)
  | .v i, sc, Γ, x0 => match x0 with
    | .Name x _ => (if slotB F.N sc i x then match Γ[i]? with
      | some (some τ) => some (rd τ, Γ)
      | _ => none
    else none)
    | _ => none
  | .mv i, sc, Γ, x0 => match x0 with
    | .Name x _ => (if slotB F.N sc i x then match Γ[i]? with
      | some (some τ) => some (τ, Γ.set i none)
      | _ => none
    else none)
    | _ => none
  | .k c, _, Γ, x0 => match x0 with
    | .Constant k _ _ => (if cEq c k then some (.I, Γ) else none)
    | _ => none
  | .g j, sc, Γ, x0 => match x0 with
    | .Name x _ => (match F.gs[j]? with
    | some (y, t) => if y = x ∧ glB sc x = true ∧ dbg x = false then some (t, Γ) else none
    | none => none)
    | _ => none
  | .tup es, sc, Γ, x0 => match x0 with
    | .Tuple xs _ _ => (match ckEs F es sc Γ xs with
    | some (τs, Γ') => if (τs.all fun t => sub t (lubs τs)) = true ∧ τs.length ≤ 1000 then some (lubs τs, Γ') else none
    | none => none)
    | _ => none
  | .tupM p i es, sc, Γ, x0 => match x0 with
    | .Tuple xs _ _ => (match xs[p]?, Γ[i]? with
      | some (.Name y _), some (some _) => (match ckEs F es sc Γ (xs.eraseIdx p) with
        | some (τs, Γ') => (match Γ'[i]? with
          | some (some τ) => if slotB F.N sc i y = true ∧ ((τ :: τs).all fun t => sub t (lubs (τ :: τs))) = true ∧ τs.length ≤ 999 then some (lubs (τ :: τs), Γ'.set i none) else none
          | _ => none)
        | none => none)
      | _, _ => none)
    | _ => none
  | .lst es, sc, Γ, x0 => match x0 with
    | .List xs _ => (match ckEs F es sc Γ xs with
    | some (τs, Γ') => if (τs.all fun t => sub t (lubs τs)) = true ∧ τs.length ≤ 1000 then some (.N .o (lubs τs), Γ') else none
    | none => none)
    | _ => none
  | .dnew, _, Γ, x0 => match x0 with
    | .Dict [] [] _ => (some (.N .o .I, Γ))
    | _ => none
  | .dlit a b, sc, Γ, x0 => match x0 with
    | .Dict [some k] [v] _ => (match ckE F a sc Γ k with
    | some (_, Γ1) => match ckE F b sc Γ1 v with
      | some (τ, Γ2) => if TyEnv.st Γ2 = true ∧ τ.st = true then some (.N .o τ, Γ2) else none
      | none => none
    | none => none)
    | _ => none
  | .xmk cls fld e, sc, Γ, x0 => match x0 with
    | .Attribute (.Call (.Name y _) [x] [] _) f _ => (match ckE F e sc Γ x with
    | some r => if y = cls ∧ f = fld ∧ (cls, fld) ∈ F.ex.mkws ∧ glB sc cls = true ∧ dbg cls = false ∧ noStar x = true then some r else none
    | none => none)
    | _ => none
  | .op o es, sc, Γ, x => match opArgs sc o x with
    | some xs => match ckEs F es sc Γ xs with
      | some (τs, Γ') => match opT o τs with
        | some t => if dictOp o then none else some (t, Γ')
        | none => none
      | none => none
    | none => none
  | .meth k o e es, sc, Γ, x0 => match x0 with
    | .Call (.Attribute ox nm apos) xs [] cpos => (match ckE F e sc Γ ox with
    | some (t0, Γ1) => match ckEs F es sc Γ1 xs with
      | some (τs, Γ2) => match opT o (t0 :: τs) with
        | some t => if mtNm o = some (k, nm) ∧ xs.length = mtAr o ∧ (pathOf ox).isSome = true ∧ (apos.endLine == cpos.line) = true then some (t, Γ2) else none
        | none => none
      | none => none
    | none => none)
    | _ => none
  | .call j es ks, sc, Γ, x0 => match x0 with
    | .Call (.Name x _) xs [] _ => (match ckEs F es sc Γ xs with
    | some (τs, Γ') => match callT F j x τs ks with
      | some t => if glB sc x = true ∧ dbg x = false then some (t, Γ') else none
      | none => none
    | none => none)
    | _ => none
  | .led j e es, sc, Γ, x0 => match x0 with
    | .Call (.Attribute (.Call (.Name f _) [b] [] _) m apos) xs [] cpos => (match F.led with
    | some (j', ts, t) => match ckE F e sc Γ b with
      | some (.I, Γ1) => match ckEs F es sc Γ1 xs with
        | some (τs, Γ2) => if j' = j ∧ f = "join_of" ∧ m = "led" ∧ glB sc f = true ∧ noStar b = true ∧ (apos.endLine == cpos.line) = true ∧ xs.length = 2 ∧ ((τs.zip ts).all fun p => sub (fzT p.1) p.2) = true ∧ τs.length = ts.length then some (backT t, Γ2) else none
        | none => none
      | _ => none
    | none => none)
    | _ => none
  | .and a b, sc, Γ, x0 => match x0 with
    | .BoolOp .And (x :: y :: r) p => (match ckE F a sc Γ x with
    | some (.I, Γ1) => match ckE F b sc Γ (if r.isEmpty then y else .BoolOp .And (y :: r) p) with
      | some (t, Γ2) => if Γ1 = Γ ∧ Γ2 = Γ ∧ noIf x = true ∧ noIf y = true then some (t, Γ) else none
      | none => none
    | _ => none)
    | _ => none
  | .or a b, sc, Γ, x0 => match x0 with
    | .BoolOp .Or (x :: y :: r) p => (match ckE F a sc Γ x with
    | some (.I, Γ1) => match ckE F b sc Γ (if r.isEmpty then y else .BoolOp .Or (y :: r) p) with
      | some (t, Γ2) => if Γ1 = Γ ∧ Γ2 = Γ ∧ noIf x = true ∧ noIf y = true then some (t, Γ) else none
      | none => none
    | _ => none)
    | _ => none
  | .not a, sc, Γ, x0 => match x0 with
    | .UnaryOp .Not x _ => (match ckE F a sc Γ x with
    | some (_, Γ1) => if Γ1 = Γ ∧ noIf x = true then some (.I, Γ) else none
    | none => none)
    | _ => none
  | .ite t a b, sc, Γ, x0 => match x0 with
    | .IfExp c x y _ => (match ckE F t sc Γ c with
    | some (_, Γ0) => match ckE F a sc Γ x with
      | some (t1, Γ1) => match ckE F b sc Γ y with
        | some (t2, Γ2) => match lubT t1 t2 with
          | some u => if Γ0 = Γ ∧ Γ2 = Γ1 ∧ noIf c = true then some (u, Γ1) else none
          | none => none
        | none => none
      | none => none
    | none => none)
    | _ => none
  | .chain o o' a b e, sc, Γ, x0 => match x0 with
    | .Compare x [q, q'] [y, w] _ => (match ckE F a sc Γ x with
    | some (_, Γ1) => match ckE F b sc Γ y with
      | some (_, Γ2) => match ckE F e sc Γ w with
        | some (_, Γ3) => if cmpOf o = some q ∧ cmpOf o' = some q' ∧ Γ1 = Γ ∧ Γ2 = Γ ∧ Γ3 = Γ then some (.I, Γ) else none
        | none => none
      | none => none
    | none => none)
    | _ => none
  | .chain3 o o' o3 a b e d, sc, Γ, x0 => match x0 with
    | .Compare x [q, q', q3] [y, w, v] _ => (match ckE F a sc Γ x with
    | some (_, Γ1) => match ckE F b sc Γ y with
      | some (_, Γ2) => match ckE F e sc Γ w with
        | some (_, Γ3) => match ckE F d sc Γ v with
          | some (_, Γ4) => if cmpOf o = some q ∧ cmpOf o' = some q' ∧ cmpOf o3 = some q3 ∧ Γ1 = Γ ∧ Γ2 = Γ ∧ Γ3 = Γ ∧ Γ4 = Γ then some (.I, Γ) else none
          | none => none
        | none => none
      | none => none
    | none => none)
    | _ => none
  | .sl2 t a b e, sc, Γ, x0 => match x0 with
    | .Subscript x (.Slice (some lo) (some hi) none _) _ => (match ckE F a sc Γ x with
    | some (t1, Γ1) => match ckE F b sc Γ1 lo with
      | some (_, Γ2) => match ckE F e sc Γ2 hi with
        | some (_, Γ3) => some (sl2T t t1, Γ3)
        | none => none
      | none => none
    | none => none)
    | _ => none
  | .lc it tg cond el, sc, Γ, x0 => match x0 with
    | .ListComp elt [⟨tgx, iter, ifs, 0⟩] scope _ => (match ckI F it sc false Γ tgx iter with
    | some (τi, Γ1) =>
      let Γ0 := clearT tg.slots Γ1
      let Γb := tg.ty τi Γ0
      match (match ifs with
        | [] => match cond with
          | .k (.bool true) => true
          | _ => false
        | [x] => match ckE F cond (relS scope sc) Γb x with
          | some (_, Γc) => decide (Γc = Γb) && noIf x
          | none => false
        | _ => false) with
      | true => match ckE F el (relS scope sc) Γb elt with
        | some (τ, Γe) => if Γe = Γb ∧ τ.st = true ∧ TyEnv.st Γb = true ∧ clearT tg.slots Γb = Γ0 ∧ blkC F.N sc scope (ownN F.N tg) = true ∧ tgB F.N scope sc tg tgx = true ∧ noSet iter = true ∧ inB Γ0 tg.slots = true then some (.N .o τ, Γ0) else none
        | none => none
      | false => none
    | none => none)
    | _ => none
  | .lcR it i tg cond el, sc, Γ, x0 => match x0 with
    | .ListComp elt [⟨tgx, iter, ifs, 0⟩] scope _ => (match rowT F it i sc false Γ tgx iter with
    | some τi =>
      let Γ0 := clearT tg.slots Γ
      let Γb := tg.ty τi Γ0
      match (match ifs with
        | [] => match cond with
          | .k (.bool true) => true
          | _ => false
        | [x] => match ckE F cond (relS scope sc) Γb x with
          | some (_, Γc) => decide (Γc = Γb) && noIf x
          | none => false
        | _ => false) with
      | true => match ckE F el (relS scope sc) Γb elt with
        | some (τ, Γe) => if Γe = Γb ∧ τ.st = true ∧ TyEnv.st Γb = true ∧ clearT tg.slots Γb = Γ0 ∧ blkC F.N sc scope (ownN F.N tg) = true ∧ tgB F.N scope sc tg tgx = true ∧ noSet iter = true ∧ inB Γ0 tg.slots = true then some (.N .o τ, Γ0) else none
        | none => none
      | false => none
    | none => none)
    | _ => none
  | .imm e, sc, Γ, x => match ckE F e sc Γ x with
    | some (_, Γ') => some (.I, Γ')
    | none => none
  | .co t e, sc, Γ, x => match ckE F e sc Γ x with
    | some (τ, Γ') => if sub τ t = true then some (t, Γ') else none
    | none => none
def ckEs (F : FI) : Es → Scope → TyEnv → List Expr → Option (List Ty × TyEnv)
  | .nil, _, Γ, [] => some ([], Γ)
  | .cons e es, sc, Γ, x :: xs => if noStar x then match ckE F e sc Γ x with
      | some (t, Γ1) => match ckEs F es sc Γ1 xs with
        | some (ts, Γ2) => some (t :: ts, Γ2)
        | none => none
      | none => none
    else none
  | _, _, _, _ => none
def ckI (F : FI) : It → Scope → Bool → TyEnv → Expr → Expr → Option (Ty × TyEnv)
  | .lst e, sc, fz, Γ, _, x => match ckE F e sc Γ x with
    | some (t, Γ1) => if sub t (wkT fz t) = true then some (ch (wkT fz t), Γ1) else none
    | none => none
  | .tup e, sc, fz, Γ, _, x => match ckE F e sc Γ x with
    | some (t, Γ1) => if sub t (wkT fz t) = true then some (wkT fz t, Γ1) else none
    | none => none
  | .enum e, sc, fz, Γ, tgx, x0 => match x0 with
    | .Call (.Name y _) [x] [] _ => (match ckE F e sc Γ x with
    | some (t, Γ1) => if sub t (wkT fz t) = true ∧ y = "enumerate" ∧ glB sc "enumerate" = true ∧ isTuple tgx = true ∧ noStar x = true then some (ch (wkT fz t), Γ1) else none
    | none => none)
    | _ => none
  | .rng es, sc, fz, Γ, tgx, x0 => match es, x0 with
    | .cons e .nil, .Call (.Name y _) [x] [] _ => (match ckE F e sc Γ x with
    | some (t, Γ1) => if y = "range" ∧ glB sc "range" = true ∧ noStar x = true then some (.I, Γ1) else none
    | none => none)
    | .cons e (.cons e' .nil), .Call (.Name y _) [x, x'] [] _ => (match ckE F e sc Γ x with
    | some (t, Γ1) => match ckE F e' sc Γ1 x' with
      | some (t', Γ2) => if y = "range" ∧ glB sc "range" = true ∧ noStar x = true ∧ noStar x' = true then some (.I, Γ2) else none
      | none => none
    | none => none)
    | .cons e (.cons e' (.cons (.op .neg (.cons (.k (.int 1)) .nil)) .nil)), .Call (.Name y _) [x, x', x''] [] _ => (match ckE F e sc Γ x with
    | some (_, Γ1) => match ckE F e' sc Γ1 x' with
      | some (_, Γ2) => match ckE F (.op .neg (.cons (.k (.int 1)) .nil)) sc Γ2 x'' with
        | some (_, Γ3) => if y = "range" ∧ glB sc "range" = true ∧ noStar x = true ∧ noStar x' = true ∧ noStar x'' = true then some (.I, Γ3) else none
        | none => none
      | none => none
    | none => none)
    | _, _ => none
  | .zipL es, sc, fz, Γ, tgx, x0 => match es, x0 with
    | .cons e (.cons e' .nil), .Call (.Name y _) [x, x'] [] _ => (match ckE F e sc Γ x with
    | some (t, Γ1) => match ckE F e' sc Γ1 x' with
      | some (t', Γ2) => match lubT (ch (wkT fz t)) (ch (wkT fz t')) with
        | some u => if y = "zip" ∧ glB sc "zip" = true ∧ noStar x = true ∧ noStar x' = true ∧ sub t (wkT fz t) = true ∧ sub t' (wkT fz t') = true ∧ isTuple tgx = true then some (u, Γ2) else none
        | none => none
      | none => none
    | none => none)
    | _, _ => none
  | .zipT es, sc, fz, Γ, tgx, x0 => match es, x0 with
    | .cons e (.cons e' .nil), .Call (.Name y _) [x, x'] [] _ => (match ckE F e sc Γ x with
    | some (t, Γ1) => match ckE F e' sc Γ1 x' with
      | some (t', Γ2) => match lubT (wkT fz t) (wkT fz t') with
        | some u => if y = "zip" ∧ glB sc "zip" = true ∧ noStar x = true ∧ noStar x' = true ∧ sub t (wkT fz t) = true ∧ sub t' (wkT fz t') = true ∧ isTuple tgx = true then some (u, Γ2) else none
        | none => none
      | none => none
    | none => none)
    | .cons e (.cons e' (.cons e'' .nil)), .Call (.Name y _) [x, x', x''] [] _ => (match ckE F e sc Γ x with
    | some (t, Γ1) => match ckE F e' sc Γ1 x' with
      | some (t', Γ2) => match ckE F e'' sc Γ2 x'' with
        | some (t'', Γ3) => match lubT (wkT fz t) (wkT fz t') with
          | some u0 => match lubT u0 (wkT fz t'') with
            | some u => if y = "zip" ∧ glB sc "zip" = true ∧ noStar x = true ∧ noStar x' = true ∧ noStar x'' = true ∧ sub t (wkT fz t) = true ∧ sub t' (wkT fz t') = true ∧ sub t'' (wkT fz t'') = true ∧ sub (wkT fz t) u = true ∧ sub (wkT fz t') u = true ∧ isTuple tgx = true then some (u, Γ3) else none
            | none => none
          | none => none
        | none => none
      | none => none
    | none => none)
    | _, _ => none
  | .keys _, _, _, _, _, _ => none
  | .items _, _, _, _, _, _ => none
end
end En

set_option Elab.async false
set_option linter.all false
set_option autoImplicit false
set_option maxRecDepth 100000
set_option maxHeartbeats 1000000
namespace En
open PySem PySem.Spec PyProof.Rows L2 RZ
variable {G : Gx} {lv : Nat} {W : WX} {sc : Scope} {X : Cx} {F : FI} {c : Cg} {Γ Γ' Γ1 Γ2 : TyEnv} {τ : Ty}

/-- the promise of a def that changes a parameter: what it has at the end -/
def spM (G : Gx) (p : Nat) (τ : Ty) (ts : List Ty) (g : Fun) : Sp := fun vs H Q E => ∃ (ds : List D) (d : D) (v : V) (vs0 : List V) (z : Addr → Prop) (m : Ow), vs = ins p v vs0 ∧ RA G.F H z ts ds vs0 (fun _ => 0) ∧ Rp G.F H z τ d v m ∧ Ok H z m ∧
  (g (ins p d ds)).post (fun d' => ∀ (H' : Hp) (z' : Addr → Prop) (m' : Ow), Rp G.F H' z' τ d' v m' → Stp H z m H' z' m' → Q .non H') fun _ => False
/-- what the callees promise, what the constants are -/
structure CallsOk (G : Gx) (lv : Nat) (F : FI) (c : Cg) : Prop where
  call : ∀ (j : Nat) (x : Str) (ts : List Ty) (t : Ty) (dfs : List (List Kt)), F.calls[j]? = some (x, ts, t, dfs) → ∃ (fn : Fun) (f : Addr) (fd : FuncData) (k : Nat) (ps : List Str), c.fs[j]? = some fn ∧ G.mg x = some (.ref f) ∧ PySem.W.keepIn G.K (.ref f) = true ∧ k ≤ lv ∧
    FnOk G.P G.w G.K G.mg G.base (L2.CX G.P G.w) k f fd ps (spOf G ts t fn) ∧ ∀ ks : List Kt, ks ∈ dfs → ∃ (dss : List Value) (dvs : List V), Binds G.K fd ps dss ∧ Vals dvs dss ∧ dvs.map some = ks.map fun k => atomV k.d
  glob : ∀ (j : Nat) (x : Str) (t : Ty), F.gs[j]? = some (x, t) → ∃ (d : D) (v : V) (u : Value), c.gs[j]? = some d ∧ G.mg x = some u ∧ RelV v u ∧ ∀ (H : Hp) (z : Addr → Prop), Rp G.F H z t d v fun _ => 0
  led : ∀ (j : Nat) (ts : List Ty) (t : Ty), F.led = some (j, ts, t) → ∃ fn, c.fs[j]? = some fn ∧ LedOk G lv ts t fn
  chg : ∀ (j : Nat) (x : Str) (p : Nat) (τ : Ty) (ts : List Ty), F.ms[j]? = some (x, p, τ, ts) → ∃ (fn : Fun) (f : Addr) (fd : FuncData) (k : Nat) (ps : List Str), c.ms[j]? = some fn ∧ G.mg x = some (.ref f) ∧ PySem.W.keepIn G.K (.ref f) = true ∧ k ≤ lv ∧
    FnOk G.P G.w G.K G.mg G.base (L2.CX G.P G.w) k f fd ps (spM G p τ ts fn) ∧ Binds G.K fd ps []
  N : F.N = G.N
  ex : XOkF G lv F.ex
  blt : ∀ x ∈ blts, G.mg x = none
def PEx (X : Cx) (x : Expr) (t : TE) : Prop := PE X x t ∧ ∀ elt gs scope pos, x = .ListComp elt gs scope pos → ∀ (i : Nat) (y : Str) (py spos : Pos), X.N[i]? = some y → X.env.scope.names.lookup y = some .local →
  swapsWith x (some (.Name y py)) spos.line X.env = pure true → PS X (.Assign [.Name y py] x spos) (tAsg t (gName i))
def PTx (X : Cx) (x : Expr) (tt : TT) : Prop := PT X x tt ∧ ∀ op vs p, x = .BoolOp op vs p → PW X x tt
def RdE (G : Gx) (lv : Nat) (sc : Scope) (W : WX) (c : Cg) (x : Expr) (e : E) (Γ Γ' : TyEnv) (τ : Ty) : Prop :=
  (∃ t, (∀ X, Good G lv W sc X → PEx X x t) ∧ EvE G W t Γ Γ' τ (ev c e)) ∧
  (noIf x = true → Γ' = Γ → ∃ tt, (∀ X, Good G lv W sc X → PTx X x tt) ∧ EvT G W tt Γ fun ρ => (ev c e ρ).bind toB)
/-- forms that are tested by their value -/
def plainT : Expr → Bool
  | .UnaryOp .Not _ _ => false
  | .BoolOp _ _ _ => false
  | .IfExp _ _ _ _ => false
  | .Compare _ _ _ _ => false
  | _ => true
def noLC : Expr → Bool
  | .ListComp _ _ _ _ => false
  | _ => true
theorem _root_.L2.PE.pex {x : Expr} {t : TE} (h : PE X x t) (n : noLC x = true) : PEx X x t := ⟨h, fun elt gs scope pos e => by subst e; cases n⟩
theorem _root_.L2.PE.ptx {x : Expr} {t : TE} (h : PE X x t) (n : plainT x = true) : PTx X x (tB t) := by
  refine ⟨pt_val h fun whole => ?_, fun op vs p e => by subst e; cases n⟩
  cases x <;> first | rfl | (simp [plainT] at n) | skip
  rename_i op a p
  cases op <;> first | rfl | cases n
theorem RdE.of_pe {x : Expr} {e : E} {t : TE} (h : ∀ X, Good G lv W sc X → PE X x t) (n : noLC x = true) (p : plainT x = true) (he : EvE G W t Γ Γ' τ (ev c e)) : RdE G lv sc W c x e Γ Γ' τ := by
  refine ⟨⟨t, fun X g => (h X g).pex n, he⟩, fun _ eq => ?_⟩
  subst eq
  exact ⟨tB t, fun X g => (h X g).ptx p, he.test⟩
/-- comparisons as tests -/
theorem op_pt {o : Op} {e : Expr} {xs : List Expr} {ts : List TE} (g : Good G lv W sc X) (h : opArgs sc o e = some xs) (hp : PEs X xs ts) : PTx X e (tB (tCB (rOf X.K X.w o) (tL ts))) := by
  have pe := op_pe g h hp
  have hu : X.A.units + 65 < cLine := g.hu
  have c2 : ∀ {op : CmpOp} {r : R2}, cmp1 op e = some xs → OpR X (compareOp op) r → rOf X.K X.w o = r2l r → PTx X e (tB (tCB (rOf X.K X.w o) (tL ts))) := fun {op r} h ho er => by
    obtain ⟨a, b, pos, rfl, rfl, hb⟩ := cmp1_inv h
    obtain ⟨ta, tb, rfl, _, _, h1, h2⟩ := two_of hp
    rw [er]
    exact ⟨pt_cmpR ho h1 h2 hb, fun op vs p e => nomatch e⟩
  have k1 : ∀ {x : Str} {n : Nat}, call1 sc x n e = some xs → plainT e = true := fun {x n} h => by obtain ⟨p, pos, rfl, _⟩ := call1_inv h; rfl
  have b2 : ∀ {op : Operator}, bin1 op e = some xs → plainT e = true := fun {op} h => by obtain ⟨a, b, pos, rfl, _⟩ := bin1_inv h; rfl
  cases o with
  | add => exact pe.ptx (b2 h)
  | sub => exact pe.ptx (b2 h)
  | mul => exact pe.ptx (b2 h)
  | fdiv => exact pe.ptx (b2 h)
  | mod => exact pe.ptx (b2 h)
  | pow => exact pe.ptx (b2 h)
  | neg =>
    refine pe.ptx ?_
    simp only [opArgs] at h
    split at h
    · rfl
    · cases h
  | eq => exact c2 h (op_eqD (by omega)) rfl
  | ltD => exact c2 h (op_ltD (by omega)) rfl
  | ne => exact c2 h (op_neD (by omega)) rfl
  | lt => exact c2 h op_lt rfl
  | le => exact c2 h op_le rfl
  | gt => exact c2 h op_gt rfl
  | ge => exact c2 h op_ge rfl
  | isN => exact c2 h op_isNB rfl
  | notN => exact c2 h op_notNB rfl
  | len => exact pe.ptx (k1 h)
  | ixL => refine pe.ptx ?_; simp only [opArgs] at h; split at h <;> first | rfl | cases h
  | ixT => refine pe.ptx ?_; simp only [opArgs] at h; split at h <;> first | rfl | cases h
  | ixD => refine pe.ptx ?_; simp only [opArgs] at h; split at h <;> first | rfl | cases h
  | inn neg =>
    cases neg with
    | true => exact c2 (r := fun x y H Q => rNotInD X.K x y H Q ∨ rNotInU X.K x y H Q) h ((op_notInD hu).or (op_notInU hu)) rfl
    | false => exact c2 (r := fun x y H Q => rInD X.K x y H Q ∨ rInU X.K x y H Q) h ((op_inD hu).or (op_inU hu)) rfl
  | inD neg =>
    cases neg with
    | true =>
      obtain ⟨a, b, pos, rfl, rfl, hb⟩ := cmp1_inv h
      obtain ⟨ta, tb, rfl, _, _, h1, h2⟩ := two_of hp
      exact ⟨pt_cmp (pc_dnotinN hu h1 h2) hb, fun op vs p e => nomatch e⟩
    | false =>
      obtain ⟨a, b, pos, rfl, rfl, hb⟩ := cmp1_inv h
      obtain ⟨ta, tb, rfl, _, _, h1, h2⟩ := two_of hp
      exact ⟨pt_cmp (pc_dinN hu h1 h2) hb, fun op vs p e => nomatch e⟩
  | slL a b => refine pe.ptx ?_; simp only [opArgs] at h; split at h <;> first | rfl | cases h
  | slT a b => refine pe.ptx ?_; simp only [opArgs] at h; split at h <;> first | rfl | cases h
  | listL => exact pe.ptx (k1 h)
  | listT => exact pe.ptx (k1 h)
  | listR => refine pe.ptx ?_; simp only [opArgs] at h; split at h <;> first | rfl | cases h
  | revL => refine pe.ptx ?_; simp only [opArgs] at h; split at h <;> first | rfl | cases h
  | tupL => exact pe.ptx (k1 h)
  | tupT => exact pe.ptx (k1 h)
  | tupR => refine pe.ptx ?_; simp only [opArgs] at h; split at h <;> first | rfl | cases h
  | catL => exact pe.ptx (b2 h)
  | catT => exact pe.ptx (b2 h)
  | catS => exact pe.ptx (b2 h)
  | srt => exact pe.ptx (k1 h)
  | srtK => exact pe.ptx (k1 h)
  | max2 => exact pe.ptx (k1 h)
  | mxLD => exact pe.ptx (k1 h)
  | mnLD => exact pe.ptx (k1 h)
  | mnLN => refine pe.ptx ?_; simp only [opArgs] at h; split at h <;> first | rfl | cases h
  | mx2D => exact pe.ptx (k1 h)
  | mn2D => exact pe.ptx (k1 h)
  | min2 => exact pe.ptx (k1 h)
  | maxL => exact pe.ptx (k1 h)
  | minL => exact pe.ptx (k1 h)
  | sumL => exact pe.ptx (k1 h)
  | absI => exact pe.ptx (k1 h)
  | intB => exact pe.ptx (k1 h)
  | allL => exact pe.ptx (k1 h)
  | isK k => refine pe.ptx ?_; simp only [opArgs] at h; split at h <;> first | rfl | cases h
  | idx => cases h
  | cnt => cases h
  | dget1 => cases h
  | dget2 => cases h
theorem opArgs_lc {o : Op} {e : Expr} {xs : List Expr} (h : opArgs sc o e = some xs) : noLC e = true := by
  cases e <;> first | rfl | skip
  cases o <;> simp [opArgs, bin1, cmp1, call1] at h
theorem slotB_inv {N : List Str} {i : Nat} {x : Str} (h : slotB N sc i x = true) : N[i]? = some x ∧ Vis sc x ∧ (x == ("__debug__" : Str)) = false ∧ (x == ("__classdict__" : Str)) = false := by
  unfold slotB dbg at h
  simp only [Bool.and_eq_true, decide_eq_true_eq, Bool.not_eq_true'] at h
  refine ⟨h.1.1.1, ?_, h.1.2, h.2⟩
  have := h.1.1.2
  unfold Vis
  split at this
  · rename_i e; exact .inl e
  · rename_i e; exact .inr (.inl e)
  · rename_i e; exact .inr (.inr e)
  · cases this
theorem Good.N (g : Good G lv W sc X) : X.N = G.N := by have := g.gx; subst this; rfl
theorem var_pe {i : Nat} {x : Str} {p : Pos} (C : CallsOk G lv F c) (h : slotB F.N sc i x = true) : ∀ X, Good G lv W sc X → PE X (.Name x p) (tVar i) := by
  intro X g
  obtain ⟨h1, h2, h3, h4⟩ := slotB_inv h
  exact pe_var (by rw [g.N, ← C.N]; exact h1) (by rw [g.sc]; exact h2) h3 h4
theorem cEq_inv {k : Kt} {q : Const} (h : cEq k q = true) : ∃ v, atomV k.d = some v ∧ ∀ (X : Cx) (n : Nat) (p : Pos), PE X (.Constant q n p) (tC v) := by
  cases k <;> cases q <;> simp [cEq] at h
  · exact ⟨_, rfl, fun _ _ _ => pe_non⟩
  · subst h; exact ⟨_, rfl, fun _ _ _ => pe_bl⟩
  · subst h; exact ⟨_, rfl, fun _ _ _ => pe_int⟩
  · subst h; exact ⟨_, rfl, fun _ _ _ => pe_str⟩
theorem pick {α : Type} {r : List α → Prop} {P : Prop} (h : P) : P := h
theorem PEs.all {es : List Expr} {ts : List TE} (hn : es.all noStar = true) (hl : es.length = ts.length) (h : ∀ (i : Nat) (e : Expr) (t : TE), es[i]? = some e → ts[i]? = some t → PE X e t) : PEs X es ts := by
  induction es generalizing ts with
  | nil => cases ts with
    | nil => exact .nil
    | cons _ _ => cases hl
  | cons e es ih => cases ts with
    | nil => cases hl
    | cons t ts =>
      rw [List.all_cons, Bool.and_eq_true] at hn
      exact .cons hn.1 (h 0 e t rfl rfl) (ih hn.2 (by simpa using hl) fun i e' t' h1 h2 => h (i + 1) e' t' (by simpa using h1) (by simpa using h2))
theorem setty_len : ∀ (is : List Nat) (τ : Ty) (Γ : TyEnv), (is.foldl (fun Γ i => Γ.set i (some τ)) Γ).length = Γ.length
  | [], _, _ => rfl
  | i :: is, τ, Γ => by rw [List.foldl_cons, setty_len is]; exact List.length_set
theorem inB_inv {is : List Nat} (h : inB Γ is = true) : ∀ i ∈ is, i < Γ.length := by
  unfold inB at h
  simpa using h
def gOf (K : Frag) : Tg → TG
  | .s i => gName i
  | .t is => gTup K is.length (gNames is)
theorem EvG.of {tg : Tg} (h : inB Γ tg.slots = true) : EvG G (gOf G.K tg) tg Γ τ := by
  have hi := inB_inv h
  cases tg with
  | s i => exact EvG.name (hi i (by simp [Tg.slots]))
  | t is => exact EvG.tup hi
theorem assignEach_names : ∀ (es : List Expr) (env : PySem.Env), (∀ e ∈ es, ∃ x p, e = .Name x p) → (assignEach es env).length = es.length ∧ (assignEach es env).findIdx? (·.1) = none ∧ ∀ e r, es = e :: r → (assignEach es env).map (·.2) = assign e env :: (assignEach r env).map (·.2)
  | [], _, _ => ⟨rfl, rfl, fun _ _ h => by cases h⟩
  | e :: es, env, h => by
    obtain ⟨x, p, rfl⟩ := h e (by simp)
    obtain ⟨h1, h2, _⟩ := assignEach_names es env fun e he => h e (by simp [he])
    refine ⟨?_, ?_, fun e r q => ?_⟩
    · show (assignEach es env).length + 1 = _
      rw [h1]
      rfl
    · show List.findIdx? (·.1) ((false, assign (.Name x p) env) :: assignEach es env) = none
      rw [List.findIdx?_cons]
      simp only [Bool.false_eq_true, if_false, h2]
      rfl
    · cases q
      rfl
theorem pgs_names {own : Str → Prop} (nd : X.N.Nodup) (ho : ∀ x, own x → Loc X.env.scope x ∧ (X.fn x = true ∨ X.env.scope.names.lookup x = some .local)) : ∀ (is : List Nat) (es : List Expr), (∀ (k : Nat) (e : Expr), es[k]? = some e → ∃ x p i, e = .Name x p ∧ is[k]? = some i ∧ X.N[i]? = some x ∧ own x) → is.length = es.length → PGs X es (gNames is)
  | [], [], _, _ => pgs_nil
  | [], _ :: _, _, h => by cases h
  | _ :: _, [], _, h => by cases h
  | i :: is, e :: es, h, hl => by
    obtain ⟨x, p, i', rfl, e1, h1, h2⟩ := h 0 e rfl
    cases e1
    obtain ⟨l1, l2⟩ := ho x h2
    refine pgs_cons (pg_name nd h1 l1 l2) (pgs_names nd ho is es (fun k e he => h (k + 1) e (by simpa using he)) (by simpa using hl)) ?_
    exact (assignEach_names (.Name x p :: es) X.env fun e he => by
      obtain ⟨k, hk⟩ := List.getElem?_of_mem he
      obtain ⟨x, p, _, q, _⟩ := h k e hk
      exact ⟨x, p, q⟩).2.2 _ _ rfl
end En

set_option Elab.async false
set_option linter.all false
set_option autoImplicit false
set_option maxRecDepth 100000
set_option maxHeartbeats 2000000
namespace En
open PySem PySem.Spec PyProof.Rows L2 RZ
variable {G : Gx} {lv : Nat} {F : FI} {c : Cg}

/-! ## every expression that the check takes is sound -/
def RdEs (G : Gx) (lv : Nat) (sc : Scope) (W : WX) (c : Cg) (xs : List Expr) (es : Es) (Γ Γ' : TyEnv) (τs : List Ty) : Prop :=
  ∃ ts, (∀ X, Good G lv W sc X → PEs X xs ts) ∧ EvA G W (tL ts) Γ Γ' τs (evs c es)
def RdI (G : Gx) (lv : Nat) (sc : Scope) (W : WX) (c : Cg) (fz : Bool) (tgx x : Expr) (it : It) (Γ Γ' : TyEnv) (τ : Ty) : Prop :=
  ∃ wi, (∀ X, Good G lv W sc X → PI X tgx x wi) ∧ EvI G W fz wi Γ Γ' τ (evI c it)
theorem pi_sz {X : Cx} {tg e : Expr} {t : TE} (h : PE X e t) : PE X e (tSz X.K t) := pe_sz h
theorem tg_inv {N : List Str} {scope sc : Scope} {i : Nat} {x : Str} (h : tgNm N scope sc i x = true) : N[i]? = some x ∧ Loc (relS scope sc) x ∧ ((scope.names.lookup x == some .cell) = true ∨ (relS scope sc).names.lookup x = some .local) := by
  unfold tgNm at h
  simp only [Bool.and_eq_true, Bool.or_eq_true, decide_eq_true_eq] at h
  rcases h with ⟨h1, h2 | ⟨h2, h3⟩⟩
  · exact ⟨h1, .inl h2, .inr h2⟩
  · exact ⟨h1, .inr h2, .inl (by rw [h3]; rfl)⟩
theorem tgs_inv {N : List Str} {scope sc : Scope} : ∀ {is : List Nat} {es : List Expr}, tgNms N scope sc is es = true → is.length = es.length ∧ ∀ (k : Nat) (e : Expr), es[k]? = some e → ∃ x p i, e = .Name x p ∧ is[k]? = some i ∧ tgNm N scope sc i x = true
  | [], [], _ => ⟨rfl, fun k e h => by simp at h⟩
  | [], _ :: _, h => by cases h
  | _ :: _, [], h => by cases h
  | i :: is, e :: es, h => by
    cases e <;> simp only [tgNms, Bool.and_eq_true, Bool.false_eq_true] at h
    obtain ⟨h1, h2⟩ := h
    obtain ⟨l, k2⟩ := tgs_inv h2
    refine ⟨by simp [l], fun k e' he => ?_⟩
    cases k with
    | zero => cases he; exact ⟨_, _, _, rfl, rfl, h1⟩
    | succ k => exact k2 k e' he
/-- a block's targets -/
theorem pg_blk {X : Cx} {sc scope : Scope} {W : WX} {tg : Tg} {tgx : Expr} (g : Good G lv W sc X) (hN : F.N = G.N) (h : tgB F.N scope sc tg tgx = true) (s : Shared) (H : Hp) (C : Addr) (cl : List (Str × Addr)) (fp : List Addr) :
    PG (X.blk s H scope (compEnvC scope cl C X.env) fp) tgx (gOf G.K tg) := by
  have hs : (compEnvC scope cl C X.env).scope = relS scope sc := by have := g.sc; subst this; rfl
  have one : ∀ {i : Nat} {x : Str}, tgNm F.N scope sc i x = true → X.N[i]? = some x ∧ Loc (compEnvC scope cl C X.env).scope x ∧ ((fun x => scope.names.lookup x == some .cell) x = true ∨ (compEnvC scope cl C X.env).scope.names.lookup x = some .local) := fun {i x} h => by
    obtain ⟨h1, h2, h3⟩ := tg_inv h
    rw [hs]
    exact ⟨by rw [g.N, ← hN]; exact h1, h2, h3⟩
  cases tg with
  | s i =>
    cases tgx <;> simp only [tgB, Bool.false_eq_true] at h
    obtain ⟨h1, h2, h3⟩ := one h
    exact pg_name g.nd h1 h2 h3
  | t is =>
    cases tgx <;> simp only [tgB, Bool.false_eq_true] at h
    rename_i es kk pos
    obtain ⟨hl, hk⟩ := tgs_inv h
    have ge := g.gx
    subst ge
    have nm : ∀ e ∈ es, ∃ x p, e = .Name x p := fun e he => by
      obtain ⟨k, hk'⟩ := List.getElem?_of_mem he
      obtain ⟨x, p, _, q, _⟩ := hk k e hk'
      exact ⟨x, p, q⟩
    have an := assignEach_names es (compEnvC scope cl C X.env) nm
    refine pg_tup (n := is.length) g.calm (pgs_names (X := X.blk s H scope (compEnvC scope cl C X.env) fp) (own := fun x => ∃ i, tgNm F.N scope sc i x = true) g.nd (fun x ⟨i, hx⟩ => (one hx).2) is es (fun k e he => ?_) hl) (by rw [hl]; exact an.1) an.2.1
    obtain ⟨x, p, i, q1, q2, q3⟩ := hk k e he
    exact ⟨x, p, i, q1, q2, (one q3).1, i, q3⟩
theorem Good.blk {X : Cx} {sc scope : Scope} {W : WX} (g : Good G lv W sc X) (s : Shared) (H : Hp) (C : Addr) (cl : List (Str × Addr)) (fp : List Addr) : Good G lv W0 (relS scope sc) (X.blk s H scope (compEnvC scope cl C X.env) fp) :=
  ⟨g.gx, by have := g.sc; subst this; rfl, g.calm, g.room, takes0, g.blt, g.nd⟩
theorem own_slots (N : List Str) (tg : Tg) : (ownN N tg).map (·.2) = tg.slots := by
  unfold ownN
  rw [List.map_map]
  exact List.map_id _
theorem evT_const {W : WX} {Γ : TyEnv} : EvT G W tYes Γ fun ρ => (ev c (.k (.bool true)) ρ).bind toB := by
  intro ρ σ H z m se ok Q h
  exact h H z m se (Stp.refl ok) Ext.refl
theorem set_iter {X : Cx} {e : Expr} (h : noSet e = true) : ∀ x, foldedSetIterable e X.env x = pure x := by
  intro x
  cases e <;> first | rfl | cases h
theorem BoolOp_tail {X : Cx} {op : BoolOp} {y : Expr} {r : List Expr} {p : Pos} {t : TE} (h : PE X (if r.isEmpty then y else .BoolOp op (y :: r) p) t) : PE X (.BoolOp op (y :: r) p) t := by
  cases r with
  | nil => exact pe_one h
  | cons _ _ => exact h
theorem and_tail {X : Cx} {y : Expr} {r : List Expr} {p : Pos} {t : TT} (h : PTx X (if r.isEmpty then y else .BoolOp .And (y :: r) p) t) : PW X (.BoolOp .And (y :: r) p) t := by
  cases r with
  | nil => exact pw_and1 h.1
  | cons _ _ => exact h.2 _ _ _ rfl
theorem or_tail {X : Cx} {y : Expr} {r : List Expr} {p : Pos} {t : TT} (h : PTx X (if r.isEmpty then y else .BoolOp .Or (y :: r) p) t) : PW X (.BoolOp .Or (y :: r) p) t := by
  cases r with
  | nil => exact pw_or1 h.1
  | cons _ _ => exact h.2 _ _ _ rfl
def cmpR (p : Int → Int → Bool) : R2 := rI0 fun i j => .bl (p i j)
theorem cmp_op {o : Op} {q : CmpOp} (h : cmpOf o = some q) : ∃ p, cmpF o = some p ∧ (∀ X : Cx, OpR X (compareOp q) (rI0 fun i j => .bl (p i j))) ∧ q ≠ .In ∧ q ≠ .NotIn := by
  cases o <;> simp only [cmpOf] at h <;> first | cases h | skip
  · exact ⟨_, rfl, fun X => op_lt, by decide, by decide⟩
  · exact ⟨_, rfl, fun X => op_le, by decide, by decide⟩
  · exact ⟨_, rfl, fun X => op_gt, by decide, by decide⟩
  · exact ⟨_, rfl, fun X => op_ge, by decide, by decide⟩
theorem marks_chain {q q' : CmpOp} {y w : Expr} (h : q' ≠ .In ∧ q' ≠ .NotIn) : lastMarks [q, q'] [y, w] = false := by
  show behindInMarks q' w = false
  exact nobehind w h.1 h.2
theorem marks_chain3 {q q' q3 : CmpOp} {y w v : Expr} (h : q3 ≠ .In ∧ q3 ≠ .NotIn) : lastMarks [q, q', q3] [y, w, v] = false := by
  show behindInMarks q3 v = false
  exact nobehind v h.1 h.2
theorem noIf_tail {op : BoolOp} {y : Expr} {r : List Expr} {p : Pos} (h : noIf y = true) : noIf (if r.isEmpty then y else .BoolOp op (y :: r) p) = true := by
  cases r with
  | nil => exact h
  | cons _ _ => rfl
end En

set_option Elab.async false
set_option linter.all false
set_option autoImplicit false
set_option maxRecDepth 100000
set_option maxHeartbeats 1000000
namespace En
open PySem PySem.Spec PyProof.Rows L2 RZ
variable {G : Gx} {lv : Nat} {F : FI} {c : Cg} {sc : Scope} {W : WX} {H H' H'' : Hp} {z z' z'' : Addr → Prop} {τ τ' : Ty} {d : D} {v : V} {ds : List D} {vs : List V} {m m' m1 m2 m0 : Ow} {Γ Γ' Γ1 Γ2 Γb : TyEnv} {ρ ρ' : Env} {σ σ' : L2.St} {τs ts : List Ty} {τr : Ty} {i p : Nat}
/-! ## a row with one of a slot among them that is moved behind all others -/
theorem RA.ins : ∀ {p : Nat} {ts : List Ty} {ds : List D} {vs : List V} {m2 : Ow}, RA G.F H z ts ds vs m2 → Rp G.F H z τ d v m1 → RA G.F H z (En.ins p τ ts) (En.ins p d ds) (En.ins p v vs) fun b => m1 b + m2 b
  | 0, _, _, _, _, h, r => .cons r h fun _ => rfl
  | p + 1, _, _, _, _, .nil q, r => by
    show RA G.F H z [τ] [d] [v] _
    exact .cons (m2 := fun _ => 0) r (.nil fun _ => rfl) fun b => by (try simp only); rw [q b]
  | p + 1, _, _, _, _, .cons a b q, r => by
    exact .cons a (RA.ins (p := p) b r) fun x => by have := q x; (try simp only); omega
def EvN (G : Gx) (W : WX) (ta : TA) (p i : Nat) (Γ Γ' : TyEnv) (τs : List Ty) (f : Env → Res (List D)) : Prop :=
  ∀ (ρ : Env) (σ : L2.St) (H : Hp) (z : Addr → Prop) (m : Ow), SE G.F H z Γ ρ σ m → Ok H z m → ∀ v0 : V, σ[i]? = some (some v0) → ∀ Q : List V → Hp → Prop,
    (f ρ).post (fun ds => ∀ (vs : List V) (H' : Hp) (z' : Addr → Prop) (m1 mv : Ow), SE G.F H' z' Γ' ρ σ m1 → RA G.F H' z' τs ds vs mv → Stp H z m H' z' (fun a => m1 a + mv a) → Ext H H' → Q (ins p v0 vs) H') (XOk G W σ H) → ta σ H Q
theorem EvN.zero {ta : TA} {f : Env → Res (List D)} (h : EvA G W ta Γ Γ' τs f) : EvN G W (tCons (tVar i) ta) 0 i Γ Γ' τs f := by
  intro ρ σ H z m se ok v0 hv Q q
  exact ⟨v0, hv, h ρ σ H z m se ok _ q⟩
theorem EvN.succ {te : TE} {ta : TA} {f : Env → Res D} {g : Env → Res (List D)} (he : EvE G W te Γ Γ1 τ f) (h : EvN G W ta p i Γ1 Γ' τs g) : EvN G W (tCons te ta) (p + 1) i Γ Γ' (τ :: τs) fun ρ => (f ρ).bind fun d => (g ρ).bind fun ds => .ok (d :: ds) := by
  intro ρ σ H z m se ok v0 hv Q h1
  rw [Res.post_bind] at h1
  refine he ρ σ H z m se ok _ (Res.post_mono h1 (fun d h1 v H1 z1 m1 mv se1 r1 st1 ex1 => ?_) fun _ h => h)
  rw [Res.post_bind] at h1
  refine h ρ σ H1 z1 m1 se1 (st1.ok.drop fun b => Nat.le_add_right _ _) v0 hv _ (Res.post_mono h1 (fun ds h1 vs H2 z2 m2 mw se2 r2 st2 ex2 => ?_) fun _ h => h.ext ex1)
  have st3 := st2.frame st1.ok
  exact h1 (v :: vs) H2 z2 m2 (fun a => mv a + mw a) se2 (.cons (r1.ext ex2 st2.zz) r2 fun _ => rfl) ((st1.trans st3).eqm (fun _ => rfl) fun b => by omega) (ex1.trans ex2)
theorem EvN.fn {ta : TA} {f g : Env → Res (List D)} (h : EvN G W ta p i Γ Γ' τs f) (e : ∀ ρ, g ρ = f ρ) : EvN G W ta p i Γ Γ' τs g := fun ρ σ H z m se ok v0 hv Q q => h ρ σ H z m se ok v0 hv Q (by rw [← e]; exact q)
theorem EvN.evA {ta : TA} {f : Env → Res (List D)} (h : EvN G W ta p i Γ Γ' τs f) (h0 : Γ[i]? = some (some τ')) (h1 : Γ'[i]? = some (some τ)) : EvA G W ta Γ (Γ'.set i none) (ins p τ τs) fun ρ => (f ρ).map fun ds => ins p (ρ.getD i .none) ds := by
  intro ρ σ H z m se ok Q q
  obtain ⟨v0, _, _, g0, _⟩ := se.get h0
  refine h ρ σ H z m se ok v0 g0 _ ?_
  rw [Res.post_map] at q
  refine Res.post_mono q (fun ds q vs H1 z1 m1 mv se1 r1 st1 ex1 => ?_) fun _ h => h
  obtain ⟨v, n1, n2, g1, g2, g3, g4⟩ := se1.get h1
  rw [g0] at g1
  cases g1
  exact q (ins p v0 vs) H1 z1 n2 (fun b => n1 b + mv b) g3 (RA.ins r1 g2) (st1.eqm (fun _ => rfl) fun b => by have := g4 b; (try simp only); omega) ex1
/-- a row of expressions, one by one -/
inductive RdL (G : Gx) (lv : Nat) (W : WX) (sc : Scope) (c : Cg) : List Expr → Es → TyEnv → TyEnv → List Ty → Prop
  | nil {Γ : TyEnv} : RdL G lv W sc c [] .nil Γ Γ []
  | cons {y : Expr} {e : E} {t : TE} {xs : List Expr} {es : Es} {Γ Γ1 Γ' : TyEnv} {τ : Ty} {τs : List Ty} : noStar y = true → (∀ X, Good G lv W sc X → PE X y t) → EvE G W t Γ Γ1 τ (ev c e) → RdL G lv W sc c xs es Γ1 Γ' τs → RdL G lv W sc c (y :: xs) (.cons e es) Γ Γ' (τ :: τs)
theorem RdL.all {xs : List Expr} {es : Es} (h : RdL G lv W sc c xs es Γ Γ' τs) : ∃ ts : List TE, (∀ X, Good G lv W sc X → PEs X xs ts) ∧ EvA G W (tL ts) Γ Γ' τs (evs c es) := by
  induction h with
  | nil => exact ⟨[], fun X g => .nil, EvA.nil⟩
  | cons n p e _ ih =>
    obtain ⟨ts, h1, h2⟩ := ih
    exact ⟨_ :: ts, fun X g => .cons n (p X g) (h1 X g), EvA.cons e h2⟩
theorem RdL.ins (C : CallsOk G lv F c) {i : Nat} {y : Str} {q : Pos} (hs : slotB F.N sc i y = true) : ∀ {p : Nat} {xs : List Expr} {es : Es} {Γ Γ' : TyEnv} {τs : List Ty}, xs[p]? = some (.Name y q) → RdL G lv W sc c (xs.eraseIdx p) es Γ Γ' τs →
    ∃ ts : List TE, (∀ X, Good G lv W sc X → PEs X xs ts) ∧ EvN G W (tL ts) p i Γ Γ' τs (evs c es)
  | _, [], _, _, _, _, e, _ => by simp at e
  | 0, x :: xs, es, Γ, Γ', τs, e, h => by
    simp only [List.getElem?_cons_zero, Option.some.injEq] at e
    subst e
    obtain ⟨ts, h1, h2⟩ := RdL.all (xs := xs) h
    exact ⟨tVar i :: ts, fun X g => .cons rfl (var_pe C hs X g) (h1 X g), EvN.zero h2⟩
  | p + 1, x :: xs, es, Γ, Γ', τs, e, h => by
    rw [List.eraseIdx_cons_succ] at h
    cases h with
    | cons n pe ee r =>
      obtain ⟨ts, h1, h2⟩ := RdL.ins C hs (p := p) (xs := xs) (by simpa using e) r
      exact ⟨_ :: ts, fun X g => .cons n (pe X g) (h1 X g), (EvN.succ ee h2).fn fun ρ => rfl⟩
theorem ins_all {α : Type} {p : Nat} {x : α} {l : List α} {f : α → Bool} (h : (x :: l).all f = true) : (ins p x l).all f = true := by
  rw [List.all_cons, Bool.and_eq_true] at h
  obtain ⟨h1, h2⟩ := h
  unfold ins
  rw [List.all_append, List.all_cons, h1, Bool.and_eq_true, Bool.and_eq_true]
  rw [List.all_eq_true] at h2
  exact ⟨List.all_eq_true.mpr fun y hy => h2 y (List.mem_of_mem_take hy), rfl, List.all_eq_true.mpr fun y hy => h2 y (List.mem_of_mem_drop hy)⟩
theorem ins_len {α : Type} {p : Nat} {x : α} {l : List α} : (ins p x l).length ≤ l.length + 1 := by
  unfold ins
  simp only [List.length_append, List.length_cons, List.length_take, List.length_drop]
  omega
end En

set_option Elab.async false
set_option linter.all false
set_option autoImplicit false
set_option maxRecDepth 100000
set_option maxHeartbeats 4000000
namespace En
open PySem PySem.Spec PyProof.Rows L2 RZ
variable {G : Gx} {lv : Nat} {F : FI} {c : Cg} {sc : Scope} {Γ Γ' Γ1 Γ2 : TyEnv} {x : Expr} {τ : Ty}

theorem ckE_v {i : Nat} (h : ckE F (.v i) sc Γ x = some (τ, Γ')) : ∃ y p t, x = .Name y p ∧ slotB F.N sc i y = true ∧ Γ[i]? = some (some t) ∧ τ = rd t ∧ Γ' = Γ := by
  unfold ckE at h
  split at h <;> first | (cases h; done) | skip
  rename_i y p
  split at h
  · split at h
    · cases h
      exact ⟨y, p, _, rfl, by assumption, by assumption, rfl, rfl⟩
    · cases h
  · cases h

theorem ckE_mv {i : Nat} (h : ckE F (.mv i) sc Γ x = some (τ, Γ')) : ∃ y p, x = .Name y p ∧ slotB F.N sc i y = true ∧ Γ[i]? = some (some τ) ∧ Γ' = Γ.set i none := by
  unfold ckE at h
  split at h <;> first | (cases h; done) | skip
  rename_i y p
  split at h
  · split at h
    · cases h
      exact ⟨y, p, rfl, by assumption, by assumption, rfl⟩
    · cases h
  · cases h

theorem ckE_k {k : Kt} (h : ckE F (.k k) sc Γ x = some (τ, Γ')) : ∃ q n p, x = .Constant q n p ∧ cEq k q = true ∧ τ = .I ∧ Γ' = Γ := by
  unfold ckE at h
  split at h <;> first | (cases h; done) | skip
  rename_i q n p
  split at h
  · cases h
    exact ⟨q, n, p, rfl, by assumption, rfl, rfl⟩
  · cases h

theorem ckE_g {j : Nat} (h : ckE F (.g j) sc Γ x = some (τ, Γ')) : ∃ y p, x = .Name y p ∧ F.gs[j]? = some (y, τ) ∧ glB sc y = true ∧ dbg y = false ∧ Γ' = Γ := by
  unfold ckE at h
  split at h <;> first | (cases h; done) | skip
  rename_i y p
  split at h
  · split at h
    · rename_i e q
      cases h
      obtain ⟨rfl, q1, q2⟩ := q
      exact ⟨_, p, rfl, e, q1, q2, rfl⟩
    · cases h
  · cases h

theorem ckE_tup {es : Es} (h : ckE F (.tup es) sc Γ x = some (τ, Γ')) : ∃ xs n p τs, x = .Tuple xs n p ∧ ckEs F es sc Γ xs = some (τs, Γ') ∧ (τs.all fun t => sub t (lubs τs)) = true ∧ τs.length ≤ 1000 ∧ τ = lubs τs := by
  unfold ckE at h
  split at h <;> first | (cases h; done) | skip
  rename_i xs n p
  split at h
  · split at h
    · rename_i e q
      cases h
      exact ⟨xs, n, p, _, rfl, e, q.1, q.2, rfl⟩
    · cases h
  · cases h

theorem ckE_lst {es : Es} (h : ckE F (.lst es) sc Γ x = some (τ, Γ')) : ∃ xs p τs, x = .List xs p ∧ ckEs F es sc Γ xs = some (τs, Γ') ∧ (τs.all fun t => sub t (lubs τs)) = true ∧ τs.length ≤ 1000 ∧ τ = .N .o (lubs τs) := by
  unfold ckE at h
  split at h <;> first | (cases h; done) | skip
  rename_i xs p
  split at h
  · split at h
    · rename_i e q
      cases h
      exact ⟨xs, p, _, rfl, e, q.1, q.2, rfl⟩
    · cases h
  · cases h

theorem ckE_dnew  (h : ckE F (.dnew) sc Γ x = some (τ, Γ')) : ∃ p, x = .Dict [] [] p ∧ τ = .N .o .I ∧ Γ' = Γ := by
  unfold ckE at h
  split at h <;> first | (cases h; done) | skip
  rename_i p
  cases h
  exact ⟨p, rfl, rfl, rfl⟩

theorem ckE_dlit {a b : E} (h : ckE F (.dlit a b) sc Γ x = some (τ, Γ')) : ∃ k v p t Γ1 τv, x = .Dict [some k] [v] p ∧ ckE F a sc Γ k = some (t, Γ1) ∧ ckE F b sc Γ1 v = some (τv, Γ') ∧ TyEnv.st Γ' = true ∧ τv.st = true ∧ τ = .N .o τv := by
  unfold ckE at h
  split at h <;> first | (cases h; done) | skip
  rename_i k v p
  split at h
  · split at h
    · split at h
      · rename_i e1 _ _ _ e2 q
        cases h
        exact ⟨k, v, p, _, _, _, rfl, e1, e2, q.1, q.2, rfl⟩
      · cases h
    · cases h
  · cases h

theorem ckE_xmk {cls fld : Str} {e : E} (h : ckE F (.xmk cls fld e) sc Γ x = some (τ, Γ')) : ∃ p y p2 p3, x = .Attribute (.Call (.Name cls p) [y] [] p2) fld p3 ∧ ckE F e sc Γ y = some (τ, Γ') ∧ (cls, fld) ∈ F.ex.mkws ∧ glB sc cls = true ∧ dbg cls = false ∧ noStar y = true := by
  unfold ckE at h
  split at h <;> first | (cases h; done) | skip
  rename_i y p z p2 f p3
  split at h
  · rename_i e1
    split at h
    · rename_i q
      cases h
      obtain ⟨rfl, rfl, q1, q2, q3, q4⟩ := q
      exact ⟨p, z, p2, p3, rfl, e1, q1, q2, q3, q4⟩
    · cases h
  · cases h

theorem ckE_op {o : Op} {es : Es} (h : ckE F (.op o es) sc Γ x = some (τ, Γ')) : ∃ xs τs, opArgs sc o x = some xs ∧ ckEs F es sc Γ xs = some (τs, Γ') ∧ opT o τs = some τ ∧ dictOp o = false := by
  unfold ckE at h
  split at h
  · split at h
    · split at h
      · split at h
        · cases h
        · rename_i q
          cases h
          exact ⟨_, _, by assumption, by assumption, by assumption, by simpa using q⟩
      · cases h
    · cases h
  · cases h

theorem ckE_call {j : Nat} {es : Es} {ks : List Kt} (h : ckE F (.call j es ks) sc Γ x = some (τ, Γ')) : ∃ y p xs p' τs, x = .Call (.Name y p) xs [] p' ∧ ckEs F es sc Γ xs = some (τs, Γ') ∧ callT F j y τs ks = some τ ∧ glB sc y = true ∧ dbg y = false := by
  unfold ckE at h
  split at h <;> first | (cases h; done) | skip
  rename_i y p xs p'
  split at h
  · split at h
    · split at h
      · rename_i q
        cases h
        exact ⟨y, p, xs, p', _, rfl, by assumption, by assumption, q.1, q.2⟩
      · cases h
    · cases h
  · cases h

theorem ckE_meth {k : Kd} {o : Op} {e : E} {es : Es} (h : ckE F (.meth k o e es) sc Γ x = some (τ, Γ')) : ∃ ox nm apos xs cpos t0 Γ1 τs, x = .Call (.Attribute ox nm apos) xs [] cpos ∧ ckE F e sc Γ ox = some (t0, Γ1) ∧ ckEs F es sc Γ1 xs = some (τs, Γ') ∧ opT o (t0 :: τs) = some τ ∧ mtNm o = some (k, nm) ∧ xs.length = mtAr o ∧ (pathOf ox).isSome = true ∧ (apos.endLine == cpos.line) = true := by
  unfold ckE at h
  split at h <;> first | (cases h; done) | skip
  rename_i ox nm apos xs cpos
  split at h
  · split at h
    · split at h
      · split at h
        · rename_i q
          cases h
          exact ⟨ox, nm, apos, xs, cpos, _, _, _, rfl, by assumption, by assumption, by assumption, q.1, q.2.1, q.2.2.1, q.2.2.2⟩
        · cases h
      · cases h
    · cases h
  · cases h

theorem ckE_led {j : Nat} {e : E} {es : Es} (h : ckE F (.led j e es) sc Γ x = some (τ, Γ')) : ∃ b p p1 apos y xs cpos ts t Γ1 τs, x = .Call (.Attribute (.Call (.Name "join_of" p) [b] [] p1) "led" apos) (y :: xs) [] cpos ∧ F.led = some (j, ts, t) ∧ ckE F e sc Γ b = some (.I, Γ1) ∧ ckEs F es sc Γ1 (y :: xs) = some (τs, Γ') ∧ glB sc "join_of" = true ∧ noStar b = true ∧ (apos.endLine == cpos.line) = true ∧ xs.length ≤ 5 ∧ ((τs.zip ts).all fun p => sub (fzT p.1) p.2) = true ∧ τs.length = ts.length ∧ τ = backT t := by
  unfold ckE at h
  split at h <;> first | (cases h; done) | skip
  rename_i f p b p1 m apos xs cpos
  split at h
  · rename_i e0
    split at h
    · rename_i e1
      split at h
      · rename_i e2
        split at h
        · rename_i q
          cases h
          obtain ⟨rfl, rfl, rfl, q1, q2, q3, q4, q5, q6⟩ := q
          cases xs with
          | nil => cases q4
          | cons y r =>
            have : r.length ≤ 5 := by
              have : r.length + 1 = 2 := q4
              omega
            exact ⟨b, p, p1, apos, y, r, cpos, _, _, _, _, rfl, e0, e1, e2, q1, q2, q3, this, q5, q6, rfl⟩
        · cases h
      · cases h
    · cases h
  · cases h

theorem ckE_and {a b : E} (h : ckE F (.and a b) sc Γ x = some (τ, Γ')) : ∃ u y r p, x = .BoolOp .And (u :: y :: r) p ∧ ckE F a sc Γ u = some (.I, Γ) ∧ ckE F b sc Γ (if r.isEmpty then y else .BoolOp .And (y :: r) p) = some (τ, Γ) ∧ Γ' = Γ ∧ noIf u = true ∧ noIf y = true := by
  unfold ckE at h
  split at h <;> first | (cases h; done) | skip
  rename_i u y r p
  split at h
  · rename_i e1
    generalize e0 : (if r.isEmpty then y else Expr.BoolOp .And (y :: r) p) = w at h
    split at h
    · rename_i e2
      split at h
      · rename_i q
        cases h
        obtain ⟨rfl, rfl, q1, q2⟩ := q
        exact ⟨u, y, r, p, rfl, e1, by rw [e0]; exact e2, rfl, q1, q2⟩
      · cases h
    · cases h
  · cases h

theorem ckE_or {a b : E} (h : ckE F (.or a b) sc Γ x = some (τ, Γ')) : ∃ u y r p, x = .BoolOp .Or (u :: y :: r) p ∧ ckE F a sc Γ u = some (.I, Γ) ∧ ckE F b sc Γ (if r.isEmpty then y else .BoolOp .Or (y :: r) p) = some (τ, Γ) ∧ Γ' = Γ ∧ noIf u = true ∧ noIf y = true := by
  unfold ckE at h
  split at h <;> first | (cases h; done) | skip
  rename_i u y r p
  split at h
  · rename_i e1
    generalize e0 : (if r.isEmpty then y else Expr.BoolOp .Or (y :: r) p) = w at h
    split at h
    · rename_i e2
      split at h
      · rename_i q
        cases h
        obtain ⟨rfl, rfl, q1, q2⟩ := q
        exact ⟨u, y, r, p, rfl, e1, by rw [e0]; exact e2, rfl, q1, q2⟩
      · cases h
    · cases h
  · cases h

theorem ckE_not {a : E} (h : ckE F (.not a) sc Γ x = some (τ, Γ')) : ∃ u p t, x = .UnaryOp .Not u p ∧ ckE F a sc Γ u = some (t, Γ) ∧ τ = .I ∧ Γ' = Γ ∧ noIf u = true := by
  unfold ckE at h
  split at h <;> first | (cases h; done) | skip
  rename_i u p
  split at h
  · split at h
    · rename_i e q
      cases h
      obtain ⟨rfl, q⟩ := q
      exact ⟨u, p, _, rfl, e, rfl, rfl, q⟩
    · cases h
  · cases h

theorem ckE_ite {t a b : E} (h : ckE F (.ite t a b) sc Γ x = some (τ, Γ')) : ∃ w u y p t0 t1 t2, x = .IfExp w u y p ∧ ckE F t sc Γ w = some (t0, Γ) ∧ ckE F a sc Γ u = some (t1, Γ') ∧ ckE F b sc Γ y = some (t2, Γ') ∧ lubT t1 t2 = some τ ∧ noIf w = true := by
  unfold ckE at h
  split at h <;> first | (cases h; done) | skip
  rename_i w u y p
  split at h
  · rename_i e0
    split at h
    · rename_i e1
      split at h
      · rename_i e2
        split at h
        · rename_i e3
          split at h
          · rename_i q
            cases h
            obtain ⟨rfl, rfl, q⟩ := q
            exact ⟨w, u, y, p, _, _, _, rfl, e0, e1, e2, e3, q⟩
          · cases h
        · cases h
      · cases h
    · cases h
  · cases h

theorem ckE_chain {o o' : Op} {a b e : E} (h : ckE F (.chain o o' a b e) sc Γ x = some (τ, Γ')) : ∃ u q q' y w p t1 t2 t3, x = .Compare u [q, q'] [y, w] p ∧ ckE F a sc Γ u = some (t1, Γ) ∧ ckE F b sc Γ y = some (t2, Γ) ∧ ckE F e sc Γ w = some (t3, Γ) ∧ cmpOf o = some q ∧ cmpOf o' = some q' ∧ τ = .I ∧ Γ' = Γ := by
  unfold ckE at h
  split at h <;> first | (cases h; done) | skip
  rename_i u q q' y w p
  split at h
  · rename_i e0
    split at h
    · rename_i e1
      split at h
      · rename_i e2
        split at h
        · rename_i k
          cases h
          obtain ⟨k1, k2, rfl, rfl, rfl⟩ := k
          exact ⟨u, q, q', y, w, p, _, _, _, rfl, e0, e1, e2, k1, k2, rfl, rfl⟩
        · cases h
      · cases h
    · cases h
  · cases h

theorem ckE_chain3 {o o' o3 : Op} {a b e d : E} (h : ckE F (.chain3 o o' o3 a b e d) sc Γ x = some (τ, Γ')) : ∃ u q q' q3 y w v p t1 t2 t3 t4, x = .Compare u [q, q', q3] [y, w, v] p ∧ ckE F a sc Γ u = some (t1, Γ) ∧ ckE F b sc Γ y = some (t2, Γ) ∧ ckE F e sc Γ w = some (t3, Γ) ∧ ckE F d sc Γ v = some (t4, Γ) ∧ cmpOf o = some q ∧ cmpOf o' = some q' ∧ cmpOf o3 = some q3 ∧ τ = .I ∧ Γ' = Γ := by
  unfold ckE at h
  split at h <;> first | (cases h; done) | skip
  rename_i u q q' q3 y w v p
  split at h
  · rename_i e0
    split at h
    · rename_i e1
      split at h
      · rename_i e2
        split at h
        · rename_i e3
          split at h
          · rename_i k
            cases h
            obtain ⟨k1, k2, k3, rfl, rfl, rfl, rfl⟩ := k
            exact ⟨u, q, q', q3, y, w, v, p, _, _, _, _, rfl, e0, e1, e2, e3, k1, k2, k3, rfl, rfl⟩
          · cases h
        · cases h
      · cases h
    · cases h
  · cases h

theorem ckE_sl2 {t : Bool} {a b e : E} (h : ckE F (.sl2 t a b e) sc Γ x = some (τ, Γ')) : ∃ u lo hi p p' t1 t2 t3 Γ1 Γ2, x = .Subscript u (.Slice (some lo) (some hi) none p) p' ∧ ckE F a sc Γ u = some (t1, Γ1) ∧ ckE F b sc Γ1 lo = some (t2, Γ2) ∧ ckE F e sc Γ2 hi = some (t3, Γ') ∧ τ = sl2T t t1 := by
  unfold ckE at h
  split at h <;> first | (cases h; done) | skip
  rename_i u lo hi p p'
  split at h
  · rename_i e0
    split at h
    · rename_i e1
      split at h
      · rename_i e2
        cases h
        exact ⟨u, lo, hi, p, p', _, _, _, _, _, rfl, e0, e1, e2, rfl⟩
      · cases h
    · cases h
  · cases h

theorem ckE_imm {e : E} (h : ckE F (.imm e) sc Γ x = some (τ, Γ')) : ∃ t, ckE F e sc Γ x = some (t, Γ') ∧ τ = .I := by
  unfold ckE at h
  split at h
  · rename_i e0
    cases h
    exact ⟨_, e0, rfl⟩
  · cases h

theorem ckE_co {t : Ty} {e : E} (h : ckE F (.co t e) sc Γ x = some (τ, Γ')) : ∃ t', ckE F e sc Γ x = some (t', Γ') ∧ sub t' t = true ∧ τ = t := by
  unfold ckE at h
  split at h
  · rename_i e0
    split at h
    · rename_i q
      cases h
      exact ⟨_, e0, q, rfl⟩
    · cases h
  · cases h

def lcCond (F : FI) (cond : E) (sb : Scope) (Γb : TyEnv) (ifs : List Expr) : Prop :=
  (ifs = [] ∧ cond = .k (.bool true)) ∨ ∃ y t, ifs = [y] ∧ ckE F cond sb Γb y = some (t, Γb) ∧ noIf y = true

theorem ckE_lc {it : It} {tg : Tg} {cond el : E} (h : ckE F (.lc it tg cond el) sc Γ x = some (τ, Γ')) : ∃ elt tgx iter ifs scope p τi Γ1 t, x = .ListComp elt [⟨tgx, iter, ifs, 0⟩] scope p ∧ ckI F it sc false Γ tgx iter = some (τi, Γ1) ∧ Γ' = clearT tg.slots Γ1 ∧ lcCond F cond (relS scope sc) (tg.ty τi Γ') ifs ∧ ckE F el (relS scope sc) (tg.ty τi Γ') elt = some (t, tg.ty τi Γ') ∧ t.st = true ∧ TyEnv.st (tg.ty τi Γ') = true ∧ clearT tg.slots (tg.ty τi Γ') = Γ' ∧ blkC F.N sc scope (ownN F.N tg) = true ∧ tgB F.N scope sc tg tgx = true ∧ noSet iter = true ∧ inB Γ' tg.slots = true ∧ τ = .N .o t := by
  unfold ckE at h
  split at h <;> first | (cases h; done) | skip
  rename_i elt tgx iter ifs scope p
  split at h
  · rename_i e0
    dsimp only at h
    split at h
    · rename_i hc
      split at h
      · rename_i e1
        split at h
        · rename_i q
          cases h
          obtain ⟨q1, q2, q3, q4, q5, q6, q7, q8⟩ := q
          subst q1
          refine ⟨elt, tgx, iter, ifs, scope, p, _, _, _, rfl, e0, rfl, ?_, e1, q2, q3, q4, q5, q6, q7, q8, rfl⟩
          split at hc
          · split at hc
            · exact .inl ⟨rfl, rfl⟩
            · cases hc
          · split at hc
            · rename_i e2
              simp only [Bool.and_eq_true, decide_eq_true_eq] at hc
              obtain ⟨rfl, hc⟩ := hc
              exact .inr ⟨_, _, rfl, e2, hc⟩
            · cases hc
          · cases hc
        · cases h
      · cases h
    · cases h
  · cases h

theorem ckE_lcR {it : Bool} {i : Nat} {tg : Tg} {cond el : E} (h : ckE F (.lcR it i tg cond el) sc Γ x = some (τ, Γ')) : ∃ elt tgx iter ifs scope p τi t, x = .ListComp elt [⟨tgx, iter, ifs, 0⟩] scope p ∧ rowT F it i sc false Γ tgx iter = some τi ∧ Γ' = clearT tg.slots Γ ∧ lcCond F cond (relS scope sc) (tg.ty τi Γ') ifs ∧ ckE F el (relS scope sc) (tg.ty τi Γ') elt = some (t, tg.ty τi Γ') ∧ t.st = true ∧ TyEnv.st (tg.ty τi Γ') = true ∧ clearT tg.slots (tg.ty τi Γ') = Γ' ∧ blkC F.N sc scope (ownN F.N tg) = true ∧ tgB F.N scope sc tg tgx = true ∧ noSet iter = true ∧ inB Γ' tg.slots = true ∧ τ = .N .o t := by
  unfold ckE at h
  split at h <;> first | (cases h; done) | skip
  rename_i elt tgx iter ifs scope p
  split at h
  · rename_i e0
    dsimp only at h
    split at h
    · rename_i hc
      split at h
      · rename_i e1
        split at h
        · rename_i q
          cases h
          obtain ⟨q1, q2, q3, q4, q5, q6, q7, q8⟩ := q
          subst q1
          refine ⟨elt, tgx, iter, ifs, scope, p, _, _, rfl, e0, rfl, ?_, e1, q2, q3, q4, q5, q6, q7, q8, rfl⟩
          split at hc
          · split at hc
            · exact .inl ⟨rfl, rfl⟩
            · cases hc
          · split at hc
            · rename_i e2
              simp only [Bool.and_eq_true, decide_eq_true_eq] at hc
              obtain ⟨rfl, hc⟩ := hc
              exact .inr ⟨_, _, rfl, e2, hc⟩
            · cases hc
          · cases hc
        · cases h
      · cases h
    · cases h
  · cases h

end En

set_option Elab.async false
set_option linter.all false
set_option autoImplicit false
set_option maxRecDepth 100000
set_option maxHeartbeats 1000000
namespace En
open PySem PySem.Spec PyProof.Rows L2 RZ
variable {G : Gx} {lv : Nat} {F : FI} {c : Cg} {sc : Scope} {Γ Γ' Γ1 Γ2 Γb : TyEnv} {x : Expr} {τ τ' t : Ty} {W : WX} {X : Cx} {i n : Nat} {H H' H'' : Hp} {z : Addr → Prop} {d : D} {v : V} {m : Ow} {τs : List Ty}
/-! ### methods -/
theorem any_all {α : Type} : ∀ (l : List (Bool × α)), l.any (·.1) = false → l.all (fun x => !x.1) = true
  | [], _ => rfl
  | x :: l, h => by
    rw [List.any_cons, Bool.or_eq_false_iff] at h
    rw [List.all_cons, h.1, any_all l h.2]
    rfl
theorem pathBase : ∀ {e : Expr} {v}, pathOf e = some v → ∀ (nm : Str) (env : PySem.Env) (y : Sem Value), attributeBase e nm env y = y := by
  intro e v h nm env y
  cases e <;> first | rfl | simp [pathOf] at h
theorem meth_pe {T name id : String} {r : V → List V → Hp → VK → Prop} {o : Expr} {to : TE} {xs : List Expr} {ts : List TE} {apos cpos : Pos} (pa : PlainAttrs T) (slot : Slot T name id) (hty : typeOf (.builtin id) = pure (.type "method_descriptor")) (hm : MtR X id r) (ho : PE X o to) (h : PEs X xs ts)
    (hb : attributeBase o name X.env (eval o X.env) = eval o X.env) (hl : (apos.endLine == cpos.line) = true) (hlen : xs.length ≤ 5) : PE X (.Call (.Attribute o name apos) xs [] cpos) (tBM X.K T r to (tL ts)) := by
  have hp := PEs.plain (pos := cpos) h
  cases h with
  | nil => exact pe_bm0 pa slot hty hm ho hb hl
  | cons a b c =>
    refine pe_bm pa slot hty hm ho (PEs.cons a b c).pa hb ?_ hl (star_of a _ _) (c.plain)
    rw [any_all _ hp]
    rename_i e t es ts
    show (true && true && decide ((e :: es).length + 0 + 0 < 30)) = true
    have : decide ((e :: es).length + 0 + 0 < 30) = true := decide_eq_true (by omega)
    rw [this]
    rfl

/-- a thing of a built-in's class, as methods want it -/
def tyW (K : Frag) (w : World) (T : String) (x : V) (H : Hp) : Prop := tyV K T x H ∨ (T = "dict" ∧ ∃ a, x = .ref a ∧ (IsD H a ∨ Rd H a (.dK []) ∨ ∃ xs, Rd H a (dctO w a xs)))
theorem tyW_is {pins : List (Addr × Obj)} {σ : L2.St} {H : Hp} {s : Shared} {T : String} {x : V} {v : Value} (I : Inv X pins σ H s) (r : RelV x v) (ty : tyW X.K X.w T x H) :
    s.TypeIs v T ∧ ∀ a, v = .ref a → ∃ ob, s.heap.get? a = some ob ∧ ob.dict = none := by
  rcases ty with ty | ⟨rfl, a, rfl, ty⟩
  · exact tyV_is I r ty
  · obtain rfl : v = Value.ref a := r
    rcases ty with ty | ty | ⟨xs, ty⟩
    · obtain ⟨h1, h2, _⟩ := isD_at I ty
      exact ⟨h1, h2⟩
    · obtain ⟨h1, h2, _⟩ := isD_at I (.inl ⟨_, ty⟩)
      exact ⟨h1, h2⟩
    · obtain ⟨⟨_, _, _, vs, _, o, es, ep, h1, h2, h3, _⟩, _⟩ := (show ObjOk X.prog X.w H s.heap a (dctO X.w a xs) from ty.ok I.hok)
      exact ⟨⟨o, h1, h2.1⟩, fun b e => by cases e; exact ⟨o, h1, h2.2.1⟩⟩
def tBMW (K : Frag) (w : World) (T : String) (r : V → List V → Hp → VK → Prop) (to : TE) (t : TA) : TE := fun σ H Q => to σ H fun x H1 => tyW K w T x H1 ∧ t σ H1 fun xs H2 => r x xs H2 Q
section
variable {o e : Expr} {es : List Expr} {to : TE} {ta : TA} {name : Str} {apos cpos : Pos} {T id : String} {r : V → List V → Hp → VK → Prop}
theorem pe_bm0W (pa : PlainAttrs T) (slot : Slot T name id) (hty : typeOf (.builtin id) = pure (.type "method_descriptor")) (hm : MtR X id r) (ho : PE X o to)
    (hbase : attributeBase o name X.env (eval o X.env) = eval o X.env) (hline : (apos.endLine == cpos.line) = true) : PE X (.Call (.Attribute o name apos) [] [] cpos) (tBMW X.K X.w T r to tNil) := by
  refine ⟨fun pins s σ H Q I h => ?_⟩
  refine wpAny_Call_method0_late hbase hline (thn (ho.run pins s σ H _ I h) fun v s1 ⟨x, H1, I1, r1, ty, q1⟩ => ?_)
  obtain ⟨h1, h2⟩ := tyW_is I1 r1 ty
  exact ⟨T, id, pa, slot, hty, h1, h2, Calls.callWith_builtin rfl (PySem.evalArgs_none (hm pins s1 σ H1 x [] v [] Q I1 r1 .nil q1))⟩
theorem pe_bmW (pa : PlainAttrs T) (slot : Slot T name id) (hty : typeOf (.builtin id) = pure (.type "method_descriptor")) (hm : MtR X id r) (ho : PE X o to) (ha : PA X (e :: es) ta)
    (hbase : attributeBase o name X.env (eval o X.env) = eval o X.env)
    (hfew : ((backTo cpos (starEach (e :: es) X.env)).all (fun x => !x.1) && (backToKw cpos (keywordEach [] X.env)).all (fun x => x.1.isSome)
      && decide ((e :: es).length + ([] : List Keyword).length + (if ([] : List Keyword).isEmpty then 0 else 1) < 30)) = true)
    (hline : (apos.endLine == cpos.line) = true) (hs : starEach (e :: es) X.env = (false, eval e X.env) :: starEach es X.env) (hplain : (backTo cpos (starEach es X.env)).any (·.1) = false) :
    PE X (.Call (.Attribute o name apos) (e :: es) [] cpos) (tBMW X.K X.w T r to ta) := by
  refine ⟨fun pins s σ H Q I h => ?_⟩
  refine wpAny_Call_method_late hbase hfew hline rfl (thn (ho.run pins s σ H _ I h) fun v s1 ⟨x, H1, I1, r1, ty, q1⟩ => ?_)
  obtain ⟨h1, h2⟩ := tyW_is I1 r1 ty
  refine ⟨T, id, pa, slot, hty, h1, h2, ?_⟩
  have hA := ha.run cpos pins s1 σ H1 _ I1 q1
  rw [hs] at hA ⊢
  refine Calls.callWith_builtin (by show (false || (backTo cpos (starEach es X.env)).any (·.1)) = false; rw [hplain] <;> rfl) (Calls.evalArgs_plain ?_)
  exact thn hA fun us s2 ⟨vs, H2, I2, r2, q2⟩ => hm pins s2 σ H2 x vs v us Q I2 r1 r2 q2
end
theorem bmW {T name id : String} {r : V → List V → Hp → VK → Prop} {o : Expr} {to : TE} {xs : List Expr} {ts : List TE} {apos cpos : Pos} (pa : PlainAttrs T) (slot : Slot T name id) (hty : typeOf (.builtin id) = pure (.type "method_descriptor")) (hm : MtR X id r) (ho : PE X o to) (h : PEs X xs ts)
    (hb : attributeBase o name X.env (eval o X.env) = eval o X.env) (hl : (apos.endLine == cpos.line) = true) (hlen : xs.length ≤ 5) : PE X (.Call (.Attribute o name apos) xs [] cpos) (tBMW X.K X.w T r to (tL ts)) := by
  have hp := PEs.plain (pos := cpos) h
  cases h with
  | nil => exact pe_bm0W pa slot hty hm ho hb hl
  | cons a b c =>
    refine pe_bmW pa slot hty hm ho (PEs.cons a b c).pa hb ?_ hl (star_of a _ _) (c.plain)
    rw [any_all _ hp]
    rename_i e t es ts
    show (true && true && decide ((e :: es).length + 0 + 0 < 30)) = true
    have : decide ((e :: es).length + 0 + 0 < 30) = true := decide_eq_true (by omega)
    rw [this]
    rfl
theorem Rp.tyW (h : Rp G.F H z τ d v m) {k : Kd} (hk : isKd k d = true) (hl : k = .list ∨ k = .dict) : tyW G.K G.w (clsOf k) v H := by
  rcases hl with rfl | rfl
  · obtain ⟨xs, rfl⟩ : ∃ xs, d = .list xs := by
      cases d <;> simp [isKd] at hk
      exact ⟨_, rfl⟩
    obtain ⟨_, _, a, ws, _, _, _, rfl, hb, rl, _⟩ := Rp.list_inv h
    exact .inl (.inl ⟨rfl, ws, Box.sqL hb⟩)
  · obtain ⟨kvs, rfl⟩ : ∃ xs, d = .dict xs := by
      cases d <;> simp [isKd] at hk
      exact ⟨_, rfl⟩
    obtain ⟨q, t, a, rfl, rfl, ks, ds, m0, m1, rfl, _, ⟨hk', nd, rfl, hl, hb, rl⟩ | ⟨xs, hn, hkt, hl, hb, rl⟩⟩ := h.dict_two
    · exact .inr ⟨rfl, a, rfl, .inl (.inl ⟨_, Box.rdd hb⟩)⟩
    · exact .inr ⟨rfl, a, rfl, .inr (.inr ⟨_, Box.rdd hb⟩)⟩
theorem mtNm_kd {o : Op} {k : Kd} {nm : Str} (h : mtNm o = some (k, nm)) : k = .list ∨ k = .dict := by
  cases o <;> simp [mtNm] at h <;> obtain ⟨rfl, _⟩ := h <;> simp
theorem mt_idxW (hu : X.A.units + 65 < cLine) : MtR X "list.index" (fun x vs H Q => rOf X.K X.w .idx (x :: vs) H Q) := fun pins s σ H x xs v us Q I rx rs h => by
  match xs, h with
  | [y], h => exact mt_indexD hu pins s σ H x [y] v us Q I rx rs h
  | [], h => exact (show False from h).elim
  | _ :: _ :: _, h => exact (show False from h).elim
theorem mt_cntW (hu : X.A.units + 65 < cLine) : MtR X "list.count" (fun x vs H Q => rOf X.K X.w .cnt (x :: vs) H Q) := fun pins s σ H x xs v us Q I rx rs h => by
  match xs, h with
  | [y], h =>
    obtain ⟨a, d, ds, rfl, hl, hy, sl, sd, q⟩ := (show rCountD X.K x y H Q from h)
    cases rx
    cases rs with
    | cons ry rt =>
      rename_i uy ut
      cases rt
      obtain ⟨bs, r1⟩ := Dp.reads I d y uy hy ry
      have hxs : PyData.canLayAll0 ds = true := SeqAt.canLay_of_shaped sl
      have hroom : X.A.units + 1 + min (PyData.depthAll ds) d.depth < cLine := room_in_shaped sd hu
      cases hl with
      | lst hs ha =>
        obtain ⟨its, rv, hi, hlen⟩ := I.list hs
        obtain ⟨as, h4⟩ := Dp.readsAll I ds _ its ha rv
        exact SeqAt.count_list_data (vs := its.toArray) hi.isList (by simpa using h4) r1 (PyData.plainAll_of_canLay0 ds hxs) (PyData.plain_of_canLay0 d (SeqAt.canLay_of_shaped sd)) hroom ⟨.int _, H, I.tok _, ⟨_, rfl⟩, q⟩
  | [], h => exact (show False from h).elim
  | _ :: _ :: _, h => exact (show False from h).elim
theorem mt_dg1W (hu : X.A.units + 65 < cLine) : MtR X "dict.get" (fun x vs H Q => rOf X.K X.w .dget1 (x :: vs) H Q) := fun pins s σ H x xs v us Q I rx rs h => by
  obtain ⟨a, y, o, e, g, q⟩ := h
  cases e
  exact mt_dget1 hu pins s σ H _ _ v us Q I rx rs ⟨a, y, o, rfl, rfl, g, q⟩
theorem mt_dg2W (hu : X.A.units + 65 < cLine) : MtR X "dict.get" (fun x vs H Q => rOf X.K X.w .dget2 (x :: vs) H Q) := fun pins s σ H x xs v us Q I rx rs h => by
  obtain ⟨a, y, z, o, e, g, q⟩ := h
  cases e
  exact mt_dget2 hu pins s σ H _ _ v us Q I rx rs ⟨a, y, z, o, rfl, rfl, g, q⟩
theorem meth_peW {o : Op} {k : Kd} {nm : Str} {ox : Expr} {to : TE} {xs : List Expr} {ts : List TE} {apos cpos : Pos} (g : Good G lv W sc X) (h4 : mtNm o = some (k, nm)) (h5 : xs.length = mtAr o) (h6 : (pathOf ox).isSome = true) (h7 : (apos.endLine == cpos.line) = true)
    (ho : PE X ox to) (h : PEs X xs ts) : PE X (.Call (.Attribute ox nm apos) xs [] cpos) (tBMW X.K X.w (clsOf k) (fun x vs H Q => rOf X.K X.w o (x :: vs) H Q) to (tL ts)) := by
  obtain ⟨p, hp⟩ := Option.isSome_iff_exists.mp h6
  have hb := pathBase hp
  have hu : X.A.units + 65 < cLine := g.hu
  cases o <;> simp [mtNm] at h4
  · obtain ⟨rfl, rfl⟩ := h4
    exact bmW PySem.F.plainAttrs_list PySem.F.slot_list_index PySem.F.type_list_index (mt_idxW hu) ho h (hb _ _ _) h7 (by rw [h5]; decide)
  · obtain ⟨rfl, rfl⟩ := h4
    exact bmW PySem.F.plainAttrs_list PySem.F.slot_list_count PySem.F.type_list_count (mt_cntW hu) ho h (hb _ _ _) h7 (by rw [h5]; decide)
  · obtain ⟨rfl, rfl⟩ := h4
    exact bmW PySem.F.plainAttrs_dict PySem.F.slot_dict_get PySem.F.type_dict_get (mt_dg1W hu) ho h (hb _ _ _) h7 (by rw [h5]; decide)
  · obtain ⟨rfl, rfl⟩ := h4
    exact bmW PySem.F.plainAttrs_dict PySem.F.slot_dict_get PySem.F.type_dict_get (mt_dg2W hu) ho h (hb _ _ _) h7 (by rw [h5]; decide)
theorem EvE.meth {te : TE} {ta : TA} {f : Env → Res D} {g : Env → Res (List D)} {o : Op} {k : Kd} {r : List V → Hp → VK → Prop} {t0 : Ty} (he : EvE G W te Γ Γ1 t0 f) (ha : EvA G W ta Γ1 Γ2 τs g) (ho : OpS G.F r (t0 :: τs) τ (opv o)) (hk : k = .list ∨ k = .dict) :
    EvE G W (tBMW G.K G.w (clsOf k) (fun x vs H Q => r (x :: vs) H Q) te ta) Γ Γ2 τ fun ρ => (f ρ).bind fun d => if isKd k d then (g ρ).bind fun ds => .of (opv o (d :: ds)) else .bad := by
  intro ρ σ H z m se ok Q h
  rw [Res.post_bind] at h
  refine he ρ σ H z m se ok _ (Res.post_mono h (fun d h v H1 z1 m1 mv se1 r1 st1 ex1 => ?_) fun _ h => h)
  by_cases hd : isKd k d = true
  · rw [if_pos hd, Res.post_bind] at h
    refine ⟨r1.tyW hd hk, ?_⟩
    refine ha ρ σ H1 z1 m1 se1 (st1.ok.drop fun b => Nat.le_add_right _ _) _ (Res.post_mono h (fun ds h vs H2 z2 m2 mw se2 r2 st2 ex2 => ?_) fun _ h => h.ext ex1)
    rw [Res.post_of] at h
    obtain ⟨d', e, h⟩ := h
    have st3 := st2.frame st1.ok
    have ok2 : Ok H2 z2 fun b => mv b + mw b := st3.ok.drop fun b => by (try simp only); omega
    refine ho H2 z2 (fun b => mv b + mw b) (d :: ds) (v :: vs) d' Q (.cons (r1.ext ex2 st2.zz) r2 fun _ => rfl) ok2 e fun v' H3 z3 m3 r3 st4 ex4 => ?_
    have st5 := st4.frame (r := m2) (st3.ok.eqm fun b => by (try simp only); omega)
    refine h v' H3 z3 m2 m3 (se2.ext ex4 st4.zz) r3 ?_ ((ex1.trans ex2).trans ex4)
    exact (st1.trans st3).trans (st5.eqm (m3 := fun a => m2 a + mw a + mv a) (m4 := fun a => m2 a + m3 a) (fun b => by omega) fun b => by omega)
  · rw [if_neg hd] at h
    exact h.elim
end En

set_option Elab.async false
set_option linter.all false
set_option autoImplicit false
set_option maxRecDepth 100000
set_option maxHeartbeats 4000000
namespace En
open PySem PySem.Spec PyProof.Rows L2 RZ
variable {G : Gx} {lv : Nat} {F : FI} {c : Cg} {sc : Scope} {Γ Γ' Γ1 Γ2 : TyEnv} {x : Expr} {τ : Ty} {W : WX}
theorem ckEs_nil {xs : List Expr} {τs : List Ty} (h : ckEs F .nil sc Γ xs = some (τs, Γ')) : xs = [] ∧ τs = [] ∧ Γ' = Γ := by
  unfold ckEs at h
  split at h <;> first | (cases ‹Es.nil = _›) | cases h
  cases h
  exact ⟨rfl, rfl, rfl⟩
theorem ckEs_cons {e : E} {es : Es} {xs : List Expr} {τs : List Ty} (h : ckEs F (.cons e es) sc Γ xs = some (τs, Γ')) : ∃ y ys t ts Γ1, xs = y :: ys ∧ noStar y = true ∧ ckE F e sc Γ y = some (t, Γ1) ∧ ckEs F es sc Γ1 ys = some (ts, Γ') ∧ τs = t :: ts := by
  unfold ckEs at h
  split at h <;> first | (cases ‹Es.cons _ _ = _›) | cases h
  split at h
  · split at h
    · split at h
      · cases h
        exact ⟨_, _, _, _, _, rfl, by assumption, by assumption, by assumption, rfl⟩
      · cases h
    · cases h
  · cases h
theorem ckI_lst {e : E} {fz : Bool} {tgx : Expr} (h : ckI F (.lst e) sc fz Γ tgx x = some (τ, Γ')) : ∃ t, ckE F e sc Γ x = some (t, Γ') ∧ sub t (wkT fz t) = true ∧ τ = ch (wkT fz t) := by
  unfold ckI at h
  split at h
  · split at h
    · cases h; exact ⟨_, by assumption, by assumption, rfl⟩
    · cases h
  · cases h
theorem ckI_tup {e : E} {fz : Bool} {tgx : Expr} (h : ckI F (.tup e) sc fz Γ tgx x = some (τ, Γ')) : ∃ t, ckE F e sc Γ x = some (t, Γ') ∧ sub t (wkT fz t) = true ∧ τ = wkT fz t := by
  unfold ckI at h
  split at h
  · split at h
    · cases h; exact ⟨_, by assumption, by assumption, rfl⟩
    · cases h
  · cases h
theorem ckI_enum {e : E} {fz : Bool} {tgx : Expr} (h : ckI F (.enum e) sc fz Γ tgx x = some (τ, Γ')) : ∃ p y p' t, x = .Call (.Name "enumerate" p) [y] [] p' ∧ ckE F e sc Γ y = some (t, Γ') ∧ sub t (wkT fz t) = true ∧ glB sc "enumerate" = true ∧ isTuple tgx = true ∧ noStar y = true ∧ τ = ch (wkT fz t) := by
  unfold ckI at h
  split at h <;> first | (cases h; done) | skip
  split at h
  · split at h
    · rename_i q
      cases h
      obtain ⟨q1, rfl, q2, q3, q4⟩ := q
      exact ⟨_, _, _, _, rfl, by assumption, q1, q2, q3, q4, rfl⟩
    · cases h
  · cases h
theorem ckI_rng {es : Es} {fz : Bool} {tgx : Expr} (h : ckI F (.rng es) sc fz Γ tgx x = some (τ, Γ')) : τ = .I ∧ glB sc "range" = true ∧ ((∃ e p y p' t, es = .cons e .nil ∧ x = .Call (.Name "range" p) [y] [] p' ∧ ckE F e sc Γ y = some (t, Γ') ∧ noStar y = true) ∨
    (∃ e e' p y y' p' t t' Γ1, es = .cons e (.cons e' .nil) ∧ x = .Call (.Name "range" p) [y, y'] [] p' ∧ ckE F e sc Γ y = some (t, Γ1) ∧ ckE F e' sc Γ1 y' = some (t', Γ') ∧ noStar y = true ∧ noStar y' = true) ∨
    ∃ e e' p y y' y'' p' t t' t'' Γ1 Γ2, es = .cons e (.cons e' (.cons (.op .neg (.cons (.k (.int 1)) .nil)) .nil)) ∧ x = .Call (.Name "range" p) [y, y', y''] [] p' ∧ ckE F e sc Γ y = some (t, Γ1) ∧ ckE F e' sc Γ1 y' = some (t', Γ2) ∧ ckE F (.op .neg (.cons (.k (.int 1)) .nil)) sc Γ2 y'' = some (t'', Γ') ∧ noStar y = true ∧ noStar y' = true ∧ noStar y'' = true) := by
  unfold ckI at h
  split at h <;> first | (cases h; done) | skip
  · split at h
    · split at h
      · rename_i q
        cases h
        obtain ⟨rfl, q1, q2⟩ := q
        exact ⟨rfl, q1, .inl ⟨_, _, _, _, _, rfl, rfl, by assumption, q2⟩⟩
      · cases h
    · cases h
  · split at h
    · split at h
      · split at h
        · rename_i q
          cases h
          obtain ⟨rfl, q1, q2, q3⟩ := q
          exact ⟨rfl, q1, .inr (.inl ⟨_, _, _, _, _, _, _, _, _, rfl, rfl, by assumption, by assumption, q2, q3⟩)⟩
        · cases h
      · cases h
    · cases h
  · split at h
    · split at h
      · split at h
        · split at h
          · rename_i q
            cases h
            obtain ⟨rfl, q1, q2, q3, q4⟩ := q
            exact ⟨rfl, q1, .inr (.inr ⟨_, _, _, _, _, _, _, _, _, _, _, _, rfl, rfl, by assumption, by assumption, by assumption, q2, q3, q4⟩)⟩
          · cases h
        · cases h
      · cases h
    · cases h
theorem ckI_zipL {es : Es} {fz : Bool} {tgx : Expr} (h : ckI F (.zipL es) sc fz Γ tgx x = some (τ, Γ')) : ∃ e e' p y y' p' t t' Γ1, es = .cons e (.cons e' .nil) ∧ x = .Call (.Name "zip" p) [y, y'] [] p' ∧ ckE F e sc Γ y = some (t, Γ1) ∧ ckE F e' sc Γ1 y' = some (t', Γ') ∧
    lubT (ch (wkT fz t)) (ch (wkT fz t')) = some τ ∧ glB sc "zip" = true ∧ noStar y = true ∧ noStar y' = true ∧ sub t (wkT fz t) = true ∧ sub t' (wkT fz t') = true ∧ isTuple tgx = true := by
  unfold ckI at h
  split at h <;> first | (cases h; done) | skip
  split at h
  · split at h
    · split at h
      · split at h
        · rename_i q
          cases h
          obtain ⟨rfl, q⟩ := q
          exact ⟨_, _, _, _, _, _, _, _, _, rfl, rfl, by assumption, by assumption, by assumption, q⟩
        · cases h
      · cases h
    · cases h
  · cases h
theorem ckI_zipT {es : Es} {fz : Bool} {tgx : Expr} (h : ckI F (.zipT es) sc fz Γ tgx x = some (τ, Γ')) : (∃ e e' p y y' p' t t' Γ1, es = .cons e (.cons e' .nil) ∧ x = .Call (.Name "zip" p) [y, y'] [] p' ∧ ckE F e sc Γ y = some (t, Γ1) ∧ ckE F e' sc Γ1 y' = some (t', Γ') ∧
    lubT (wkT fz t) (wkT fz t') = some τ ∧ glB sc "zip" = true ∧ noStar y = true ∧ noStar y' = true ∧ sub t (wkT fz t) = true ∧ sub t' (wkT fz t') = true ∧ isTuple tgx = true) ∨
    ∃ e e' e'' p y y' y'' p' t t' t'' u0 Γ1 Γ2, es = .cons e (.cons e' (.cons e'' .nil)) ∧ x = .Call (.Name "zip" p) [y, y', y''] [] p' ∧ ckE F e sc Γ y = some (t, Γ1) ∧ ckE F e' sc Γ1 y' = some (t', Γ2) ∧ ckE F e'' sc Γ2 y'' = some (t'', Γ') ∧
    lubT u0 (wkT fz t'') = some τ ∧ glB sc "zip" = true ∧ noStar y = true ∧ noStar y' = true ∧ noStar y'' = true ∧ sub t (wkT fz t) = true ∧ sub t' (wkT fz t') = true ∧ sub t'' (wkT fz t'') = true ∧ sub (wkT fz t) τ = true ∧ sub (wkT fz t') τ = true ∧ isTuple tgx = true := by
  unfold ckI at h
  split at h <;> first | (cases h; done) | skip
  · split at h
    · split at h
      · split at h
        · split at h
          · rename_i q
            cases h
            obtain ⟨rfl, q⟩ := q
            exact .inl ⟨_, _, _, _, _, _, _, _, _, rfl, rfl, by assumption, by assumption, by assumption, q⟩
          · cases h
        · cases h
      · cases h
    · cases h
  · split at h
    · split at h
      · split at h
        · split at h
          · split at h
            · split at h
              · rename_i q
                cases h
                obtain ⟨rfl, q⟩ := q
                exact .inr ⟨_, _, _, _, _, _, _, _, _, _, _, _, _, _, rfl, rfl, by assumption, by assumption, by assumption, by assumption, q⟩
              · cases h
            · cases h
          · cases h
        · cases h
      · cases h
    · cases h
theorem callT_inv {j : Nat} {y : Str} {τs : List Ty} {ks : List Kt} (h : callT F j y τs ks = some τ) : ∃ ts t dfs, F.calls[j]? = some (y, ts, t, dfs) ∧ ks ∈ dfs ∧ (((τs ++ ks.map fun _ => Ty.I).zip ts).all fun p => sub (fzT p.1) p.2) = true ∧ τs.length + ks.length = ts.length ∧ τ = backT t := by
  unfold callT at h
  split at h
  · split at h
    · rename_i q
      cases h
      obtain ⟨rfl, q1, q2, q3⟩ := q
      exact ⟨_, _, _, by assumption, q1, q2, q3, rfl⟩
    · cases h
  · cases h
theorem isTuple_inv {x : Expr} (h : isTuple x = true) : ∃ es k p, x = .Tuple es k p := by
  cases x <;> first | exact ⟨_, _, _, rfl⟩ | cases h
theorem Good.w {X : Cx} (g : Good G lv W sc X) : X.w = G.w := by have := g.gx; subst this; rfl
theorem Good.K {X : Cx} (g : Good G lv W sc X) : X.K = G.K := by have := g.gx; subst this; rfl
theorem dictOp_inv {o : Op} (h : dictOp o = false) : o ≠ .cnt := by
  cases o <;> simp [dictOp] at h ⊢
theorem PTx.of {X : Cx} {x : Expr} {tt : TT} (h : PT X x tt) (n : ∀ op vs p, x ≠ .BoolOp op vs p) : PTx X x tt := ⟨h, fun op vs p e => absurd e (n op vs p)⟩
theorem toB_and (a b : Res D) : (a.bind fun d => (toB d).bind fun x => if x then b else .ok (.bool false)).bind toB = (a.bind toB).bind fun x => if x then b.bind toB else .ok false := by
  cases a with
  | ok d => cases d with
    | bool x => cases x <;> rfl
    | _ => rfl
  | _ => rfl
theorem toB_or (a b : Res D) : (a.bind fun d => (toB d).bind fun x => if x then .ok (.bool true) else b).bind toB = (a.bind toB).bind fun x => if x then .ok true else b.bind toB := by
  cases a with
  | ok d => cases d with
    | bool x => cases x <;> rfl
    | _ => rfl
  | _ => rfl
theorem toB_not (a : Res D) : (a.bind fun d => (toB d).bind fun x => .ok (.bool !x)).bind toB = (a.bind toB).bind fun x => .ok !x := by
  cases a with
  | ok d => cases d <;> rfl
  | _ => rfl
theorem toB_imm (a : Res D) : (a.bind fun d => if imm d then .ok d else .bad).bind toB = a.bind toB := by
  cases a with
  | ok d =>
    show (if imm d then Res.ok d else .bad).bind toB = toB d
    cases d with
    | bool b => rfl
    | none => rfl
    | int _ => rfl
    | str _ => rfl
    | tuple xs => split <;> rfl
    | list xs => rfl
    | dict xs => rfl
  | _ => rfl
theorem tTest_ev {t : TE} {f : Env → Res D} (he : EvE G W t Γ Γ τ f) : EvT G W (tTest t) Γ fun ρ => (f ρ).bind toB := by
  intro ρ σ H z m se ok Q h
  refine he.test ρ σ H z m se ok Q h
theorem nlc {elt : Expr} {gs sco p} (h : ∀ {y : Expr}, y = .ListComp elt gs sco p → False) : True := trivial
theorem rowT_ok (C : CallsOk G lv F c) {it : Bool} {i : Nat} {fz : Bool} {tgx x : Expr} (h : rowT F it i sc fz Γ tgx x = some τ) : ∃ t, Γ[i]? = some (some (.N .f t)) ∧ (∀ X, Good G lv W sc X → PI X tgx x (iRow G.w it i)) ∧ EvIP G W (Lkd G.w i) fz (iRow G.w it i) Γ Γ τ fun ρ => rowsD it (ρ.getD i .none) := by
  unfold rowT at h
  split at h
  · rename_i t e1
    split at h
    · rename_i q
      cases h
      obtain ⟨q1, q2, q3⟩ := q
      refine ⟨t, e1, fun X g => ?_, EvIP.row e1 q2 q3⟩
      rw [← g.w]
      cases x with
      | Name y p =>
        simp only [rowB, Bool.and_eq_true, Bool.not_eq_true'] at q1
        obtain ⟨rfl, q1⟩ := q1
        exact pi_rk (var_pe C q1 X g)
      | Call f as ks p =>
        unfold rowB at q1
        split at q1
        · rename_i e; cases e
        · rename_i y py nm apos cpos e
          cases e
          simp only [Bool.and_eq_true, decide_eq_true_eq] at q1
          obtain ⟨⟨⟨⟨rfl, k1⟩, rfl⟩, k2⟩, k3⟩ := q1
          obtain ⟨es, kk, q, rfl⟩ := isTuple_inv k3
          exact pi_ri (var_pe C k1 X g) k2
        · cases q1
      | _ => cases q1
    · cases h
  · cases h
theorem ps_lkA {X : Cx} {st : Stmt} {t : TE} {i : Nat} (h : PS X st (tAsg t (gName i))) : PS X st (tAsg (tLkE t) (gName i)) := ⟨fun pins s σ H D I w => by
  rcases w with w | ⟨d, u, h1, h2, w⟩
  · exact h.run pins s σ H D I w
  · exact (ps_lock h).run pins s σ H D I ⟨d, u, h1, h2, fun od => w od⟩⟩
theorem ckE_tupM {p i : Nat} {es : Es} (h : ckE F (.tupM p i es) sc Γ x = some (τ, Γ')) : ∃ xs n q y r t0 τs Γ1 t, x = .Tuple xs n q ∧ xs[p]? = some (.Name y r) ∧ Γ[i]? = some (some t0) ∧ ckEs F es sc Γ (xs.eraseIdx p) = some (τs, Γ1) ∧ Γ1[i]? = some (some t) ∧ slotB F.N sc i y = true ∧ ((t :: τs).all fun u => sub u τ) = true ∧ τs.length ≤ 999 ∧ Γ' = Γ1.set i none := by
  unfold ckE at h
  split at h <;> first | (cases h; done) | skip
  split at h <;> first | (cases h; done) | skip
  split at h <;> first | (cases h; done) | skip
  split at h <;> first | (cases h; done) | skip
  split at h <;> first | (cases h; done) | skip
  rename_i q
  cases h
  exact ⟨_, _, _, _, _, _, _, _, _, rfl, by assumption, by assumption, by assumption, by assumption, q.1, q.2.1, q.2.2, rfl⟩
mutual
theorem ckE_ok (C : CallsOk G lv F c) : ∀ (e : E) (sc : Scope) (Γ Γ' : TyEnv) (x : Expr) (τ : Ty) (W : WX), ckE F e sc Γ x = some (τ, Γ') → RdE G lv sc W c x e Γ Γ' τ
  | .v i, sc, Γ, Γ', x, τ, W, h => by
    obtain ⟨y, p, t, rfl, h1, h2, rfl, rfl⟩ := ckE_v h
    exact RdE.of_pe (var_pe C h1) rfl rfl ((EvE.var h2).fn fun ρ => rfl)
  | .mv i, sc, Γ, Γ', x, τ, W, h => by
    obtain ⟨y, p, rfl, h1, h2, rfl⟩ := ckE_mv h
    exact RdE.of_pe (var_pe C h1) rfl rfl ((EvE.mv h2).fn fun ρ => rfl)
  | .k k, sc, Γ, Γ', x, τ, W, h => by
    obtain ⟨q, n, p, rfl, h1, rfl, rfl⟩ := ckE_k h
    obtain ⟨v, h2, h3⟩ := cEq_inv h1
    exact RdE.of_pe (fun X g => h3 X n p) rfl rfl ((EvE.const h2).fn fun ρ => rfl)
  | .g j, sc, Γ, Γ', x, τ, W, h => by
    obtain ⟨y, p, rfl, h1, h2, h3, rfl⟩ := ckE_g h
    obtain ⟨d, v, u, q1, q2, q3, q4⟩ := C.glob j y τ h1
    refine RdE.of_pe (t := tC v) (fun X g => pe_glob (g.gl h2) (by have := g.gx; subst this; exact q2) q3 h3) rfl rfl ((EvE.glob q4).fn fun ρ => ?_)
    show Res.of c.gs[j]? = _
    rw [q1]
    rfl
  | .tup es, sc, Γ, Γ', x, τ, W, h => by
    obtain ⟨xs, n, p, τs, rfl, h1, h2, h3, rfl⟩ := ckE_tup h
    obtain ⟨ts, hp, ha⟩ := ckEs_ok C es sc Γ Γ' xs τs W h1
    exact RdE.of_pe (fun X g => pe_tup (hp X g).pa) rfl rfl ((EvA.tup ha h2 h3).fn fun ρ => rfl)
  | .tupM p i es, sc, Γ, Γ', x, τ, W, h => by
    obtain ⟨xs, n, q, y, r, t0, τs, Γ1, t, rfl, h1, h2, h3, h4, h5, h6, h7, rfl⟩ := ckE_tupM h
    obtain ⟨ts, hp, ha⟩ := RdL.ins C h5 h1 (ckEsL_ok C es sc Γ Γ1 _ τs W h3)
    refine RdE.of_pe (fun X g => pe_tup (hp X g).pa) rfl rfl ((EvA.tup (ha.evA h2 h4) (ins_all h6) (Nat.le_trans ins_len (by omega))).fn fun ρ => ?_)
    show (evs c es ρ).map (fun ds => PyData.tuple (ins p (ρ.getD i .none) ds)) = ((evs c es ρ).map fun ds => ins p (ρ.getD i .none) ds).map PyData.tuple
    cases evs c es ρ <;> rfl
  | .lst es, sc, Γ, Γ', x, τ, W, h => by
    obtain ⟨xs, p, τs, rfl, h1, h2, h3, rfl⟩ := ckE_lst h
    obtain ⟨ts, hp, ha⟩ := ckEs_ok C es sc Γ Γ' xs τs W h1
    exact RdE.of_pe (fun X g => pe_lst (hp X g).pa) rfl rfl ((EvA.lst ha h2 h3).fn fun ρ => rfl)
  | .dnew, sc, Γ, Γ', x, τ, W, h => by
    obtain ⟨p, rfl, rfl, rfl⟩ := ckE_dnew h
    exact RdE.of_pe (fun X g => pe_dnewK) rfl rfl (EvE.dnew.fn fun ρ => rfl)
  | .dlit a b, sc, Γ, Γ', x, τ, W, h => by
    obtain ⟨k, v, p, t, Γ1, τv, rfl, h1, h2, h3, h4, rfl⟩ := ckE_dlit h
    obtain ⟨⟨t1, p1, e1⟩, _⟩ := ckE_ok C a sc Γ Γ1 k _ W h1
    obtain ⟨⟨t2, p2, e2⟩, _⟩ := ckE_ok C b sc Γ1 Γ' v _ W h2
    exact RdE.of_pe (fun X g => pe_disp (pps_cons (p1 X g).1 (p2 X g).1 pps_nil) rfl rfl (by simp) (by simp)) rfl rfl ((EvE.dlit e1 e2 h3 h4).fn fun ρ => rfl)
  | .xmk cls fld e, sc, Γ, Γ', x, τ, W, h => by
    obtain ⟨p, y, p2, p3, rfl, h1, h2, h3, h4, h5⟩ := ckE_xmk h
    obtain ⟨⟨t1, p1, e1⟩, _⟩ := ckE_ok C e sc Γ Γ' y _ W h1
    obtain ⟨D, fI, fd, xn, m1, m2, m3, m4, m5, m6, m7, m8, m9⟩ := (C.ex.mkw _ _ h2).ok
    refine RdE.of_pe (t := tMkV D fld t1) (fun X g => ?_) rfl rfl ((EvE.xmk e1).fn fun ρ => rfl)
    have := g.gx
    subst this
    exact pe_mkv m2 m8 m9 m3 m4 m6 (g.room.mono m5) m7 (passes_call g.tk fun _ _ _ _ h => h.elim) (g.gl h3) m1 (p1 X g).1 h4 (star_of h5 _ _)
  | .op o es, sc, Γ, Γ', x, τ, W, h => by
    obtain ⟨xs, τs, h0, h1, h2, h3⟩ := ckE_op h
    obtain ⟨ts, hp, ha⟩ := ckEs_ok C es sc Γ Γ' xs τs W h1
    have n3 := dictOp_inv h3
    have he : EvE G W (tCB (rOf G.K G.w o) (tL ts)) Γ Γ' τ (ev c (.op o es)) := (EvA.op ha (all_ops o h2)).fn fun ρ => rfl
    refine ⟨⟨_, fun X g => ?_, he⟩, fun _ eq => ⟨tB (tCB (rOf G.K G.w o) (tL ts)), fun X g => ?_, ?_⟩⟩
    · have := op_pe g h0 (hp X g)
      rw [g.K, g.w] at this
      exact this.pex (opArgs_lc h0)
    · have := op_pt g h0 (hp X g)
      rw [g.K, g.w] at this
      exact this
    · subst eq
      exact he.test
  | .meth k o e es, sc, Γ, Γ', x, τ, W, h => by
    obtain ⟨ox, nm, apos, xs, cpos, t0, Γ1, τs, rfl, h1, h2, h3, h4, h5, h6, h7⟩ := ckE_meth h
    obtain ⟨⟨te, p1, e1⟩, _⟩ := ckE_ok C e sc Γ Γ1 ox t0 W h1
    obtain ⟨ts, p2, e2⟩ := ckEs_ok C es sc Γ1 Γ' xs τs W h2
    refine RdE.of_pe (t := tBMW G.K G.w (clsOf k) (fun x vs H Q => rOf G.K G.w o (x :: vs) H Q) te (tL ts)) (fun X g => ?_) rfl rfl ((EvE.meth e1 e2 (all_ops o h3) (mtNm_kd h4)).fn fun ρ => rfl)
    rw [← g.K, ← g.w]
    exact meth_peW g h4 h5 h6 h7 (p1 X g).1 (p2 X g)
  | .call j es ks, sc, Γ, Γ', x, τ, W, h => by
    obtain ⟨y, p, xs, p', τs, rfl, h1, h2, h3, h4⟩ := ckE_call h
    obtain ⟨ts, hp, ha⟩ := ckEs_ok C es sc Γ Γ' xs τs W h1
    obtain ⟨tys, t, dfs, q1, q2, q3, q4, rfl⟩ := callT_inv h2
    obtain ⟨fn, f, fd, k, ps, c1, c2, c3, c4, c5, c6⟩ := C.call j y tys t dfs q1
    obtain ⟨dss, dvs, b1, b2, b3⟩ := c6 ks q2
    refine RdE.of_pe (t := tCallSD (spOf G tys t fn) dvs (WE W) (tL ts)) (fun X g => ?_) rfl rfl ((EvA.call ha b3 q3 q4).fn fun ρ => ?_)
    · have := g.gx
      subst this
      exact call_pe c5 (g.room.mono c4) (g.gl h3) c2 c3 b1 b2 (fun σ => passAt g.tk σ) h4 (hp X g)
    · show ((evs c es ρ).bind fun ds => callD c.fs j (ds ++ ks.map Kt.d)) = _
      unfold callD
      rw [c1]
  | .led j e es, sc, Γ, Γ', x, τ, W, h => by
    obtain ⟨b, p, p1, apos, y, xs, cpos, ts, t, Γ1, τs, rfl, hF, h1, h2, g1, s1, l1, n1, q1, q2, rfl⟩ := ckE_led h
    obtain ⟨⟨tb, pb, eb⟩, _⟩ := ckE_ok C e sc Γ Γ1 b _ W h1
    obtain ⟨tss, hp, ha⟩ := ckEs_ok C es sc Γ1 Γ' _ τs W h2
    obtain ⟨fn, c1, cl, fl, fj, fdj, psj, kj, f, fd, ps, k, m1, m2, m3, m4, m5, m6, m7, m8, m9, rfl⟩ := C.led j ts t hF
    refine RdE.of_pe (t := tLed cl (spJ cl) (spL G cl ts t fl) W tb (tL tss)) (fun X g => ?_) rfl rfl ((EvE.led eb ha q1 q2).fn fun ρ => ?_)
    · have := g.gx
      subst this
      exact pe_ledM g.tk m4 (g.room.mono m3) (g.gl g1) m1 m2 m5 m6 m8 (g.room.mono m7) m9 s1 (pb X g).1 (hp X g) n1 l1
    · show ((ev c e ρ).bind fun b => (evs c es ρ).noex.bind fun ds => (callD c.fs j (b :: ds)).noex) = _
      unfold callD
      rw [c1]
  | .and a b, sc, Γ, Γ', x, τ, W, h => by
    obtain ⟨u, y, r, p, rfl, h1, h2, rfl, n1, n2⟩ := ckE_and h
    obtain ⟨⟨t1, p1, e1⟩, k1⟩ := ckE_ok C a sc Γ' Γ' u _ W h1
    obtain ⟨⟨t2, p2, e2⟩, k2⟩ := ckE_ok C b sc Γ' Γ' _ _ W h2
    obtain ⟨tt1, pt1, et1⟩ := k1 n1 rfl
    obtain ⟨tt2, pt2, et2⟩ := k2 (noIf_tail n2) rfl
    refine ⟨⟨_, fun X g => (pe_and (p1 X g).1 (BoolOp_tail (p2 X g).1)).pex rfl, (EvE.and e1 e2).fn fun ρ => rfl⟩, fun _ _ => ⟨_, fun X g => ?_, (EvT.and et1 et2).fn fun ρ => toB_and _ _⟩⟩
    have hw : PW X (.BoolOp .And (u :: y :: r) p) (tAnd tt1 tt2) := pw_and (pt1 X g).1 (and_tail (pt2 X g))
    exact ⟨hw.pt, fun op vs p e => by cases e; exact hw⟩
  | .or a b, sc, Γ, Γ', x, τ, W, h => by
    obtain ⟨u, y, r, p, rfl, h1, h2, rfl, n1, n2⟩ := ckE_or h
    obtain ⟨⟨t1, p1, e1⟩, k1⟩ := ckE_ok C a sc Γ' Γ' u _ W h1
    obtain ⟨⟨t2, p2, e2⟩, k2⟩ := ckE_ok C b sc Γ' Γ' _ _ W h2
    obtain ⟨tt1, pt1, et1⟩ := k1 n1 rfl
    obtain ⟨tt2, pt2, et2⟩ := k2 (noIf_tail n2) rfl
    refine ⟨⟨_, fun X g => (pe_or (p1 X g).1 (BoolOp_tail (p2 X g).1)).pex rfl, (EvE.or e1 e2).fn fun ρ => rfl⟩, fun _ _ => ⟨_, fun X g => ?_, (EvT.or et1 et2).fn fun ρ => toB_or _ _⟩⟩
    have hw : PW X (.BoolOp .Or (u :: y :: r) p) (tOr tt1 tt2) := pw_or (pt1 X g).1 (or_tail (pt2 X g))
    exact ⟨hw.pt, fun op vs p e => by cases e; exact hw⟩
  | .not a, sc, Γ, Γ', x, τ, W, h => by
    obtain ⟨u, p, t, rfl, h1, rfl, rfl, n1⟩ := ckE_not h
    obtain ⟨⟨t1, p1, e1⟩, k1⟩ := ckE_ok C a sc Γ' Γ' u _ W h1
    obtain ⟨tt1, pt1, et1⟩ := k1 n1 rfl
    exact ⟨⟨_, fun X g => (pe_not (p1 X g).1).pex rfl, (EvE.not e1).fn fun ρ => rfl⟩, fun _ _ => ⟨_, fun X g => PTx.of (pt_not (pt1 X g).1) (fun _ _ _ e => nomatch e), (EvT.not et1).fn fun ρ => toB_not _⟩⟩
  | .ite t a b, sc, Γ, Γ', x, τ, W, h => by
    obtain ⟨w, u, y, p, t0, t1, t2, rfl, h0, h1, h2, h3, n⟩ := ckE_ite h
    obtain ⟨s1, s2⟩ := lubT_inv h3
    obtain ⟨_, k0⟩ := ckE_ok C t sc Γ Γ w _ W h0
    obtain ⟨tt, pt, et⟩ := k0 n rfl
    obtain ⟨⟨ta, p1, e1⟩, _⟩ := ckE_ok C a sc Γ Γ' u _ W h1
    obtain ⟨⟨tb, p2, e2⟩, _⟩ := ckE_ok C b sc Γ Γ' y _ W h2
    exact ⟨⟨_, fun X g => (pe_ifExp (pt X g).1 (p1 X g).1 (p2 X g).1).pex rfl, (EvE.ite et (e1.sub s1) (e2.sub s2)).fn fun ρ => rfl⟩, fun n => nomatch n⟩
  | .chain o o' a b e, sc, Γ, Γ', x, τ, W, h => by
    obtain ⟨u, q, q', y, w, p, t1, t2, t3, rfl, h1, h2, h3, k1, k2, rfl, rfl⟩ := ckE_chain h
    obtain ⟨⟨ta, p1, e1⟩, _⟩ := ckE_ok C a sc Γ' Γ' u _ W h1
    obtain ⟨⟨tb, p2, e2⟩, _⟩ := ckE_ok C b sc Γ' Γ' y _ W h2
    obtain ⟨⟨tc, p3, e3⟩, _⟩ := ckE_ok C e sc Γ' Γ' w _ W h3
    obtain ⟨f, q1, q2, _⟩ := cmp_op k1
    obtain ⟨f', q1', q2', q3'⟩ := cmp_op k2
    have he : EvE G W (tChain (rI0 fun i j => .bl (f i j)) (rI0 fun i j => .bl (f' i j)) ta tb tc) Γ' Γ' .I (ev c (.chain o o' a b e)) := (EvE.chain q1 q1' e1 e2 e3).fn fun ρ => rfl
    exact ⟨⟨_, fun X g => (pe_chain (q2 X) (q2' X) (p1 X g).1 (p2 X g).1 (p3 X g).1 (marks_chain q3')).pex rfl, he⟩, fun _ _ => ⟨_, fun X g => PTx.of (pt_chain (q2 X) (q2' X) (p1 X g).1 (p2 X g).1 (p3 X g).1 (marks_chain q3')) (fun _ _ _ e => nomatch e), tTest_ev he⟩⟩
  | .chain3 o o' o3 a b e d, sc, Γ, Γ', x, τ, W, h => by
    obtain ⟨u, q, q', q3, y, w, v, p, t1, t2, t3, t4, rfl, h1, h2, h3, h4, k1, k2, k3, rfl, rfl⟩ := ckE_chain3 h
    obtain ⟨⟨ta, p1, e1⟩, _⟩ := ckE_ok C a sc Γ' Γ' u _ W h1
    obtain ⟨⟨tb, p2, e2⟩, _⟩ := ckE_ok C b sc Γ' Γ' y _ W h2
    obtain ⟨⟨tc, p3, e3⟩, _⟩ := ckE_ok C e sc Γ' Γ' w _ W h3
    obtain ⟨⟨td, p4, e4⟩, _⟩ := ckE_ok C d sc Γ' Γ' v _ W h4
    obtain ⟨f, q1, q2, _⟩ := cmp_op k1
    obtain ⟨f', q1', q2', _⟩ := cmp_op k2
    obtain ⟨f3, q13, q23, q33⟩ := cmp_op k3
    have he : EvE G W (tChain3 (rI0 fun i j => .bl (f i j)) (rI0 fun i j => .bl (f' i j)) (rI0 fun i j => .bl (f3 i j)) ta tb tc td) Γ' Γ' .I (ev c (.chain3 o o' o3 a b e d)) := (EvE.chain3 q1 q1' q13 e1 e2 e3 e4).fn fun ρ => rfl
    exact ⟨⟨_, fun X g => (pe_chain3 (q2 X) (q2' X) (q23 X) (p1 X g).1 (p2 X g).1 (p3 X g).1 (p4 X g).1 (marks_chain3 q33)).pex rfl, he⟩, fun _ _ => ⟨_, fun X g => PTx.of (pt_chain3 (q2 X) (q2' X) (q23 X) (p1 X g).1 (p2 X g).1 (p3 X g).1 (p4 X g).1 (marks_chain3 q33)) (fun _ _ _ e => nomatch e), tTest_ev he⟩⟩
  | .sl2 t a b e, sc, Γ, Γ', x, τ, W, h => by
    obtain ⟨u, lo, hi, p, p', t1, t2, t3, Γ1, Γ2, rfl, h1, h2, h3, rfl⟩ := ckE_sl2 h
    obtain ⟨⟨ta, p1, e1⟩, _⟩ := ckE_ok C a sc Γ Γ1 u _ W h1
    obtain ⟨⟨tb, p2, e2⟩, _⟩ := ckE_ok C b sc Γ1 Γ2 lo _ W h2
    obtain ⟨⟨tc, p3, e3⟩, _⟩ := ckE_ok C e sc Γ2 Γ' hi _ W h3
    have he : EvE G W (tSl (if t then rSlA G.K else rSlL G.K) ta (tPart tb) (tPart tc)) Γ Γ' (sl2T t t1) (ev c (.sl2 t a b e)) := (EvE.sl2 e1 e2 e3).fn fun ρ => rfl
    refine RdE.of_pe (fun X g => ?_) rfl rfl he
    rw [← g.K]
    refine pe_slice ?_ (p1 X g).1 (po_some (p2 X g).1) (po_some (p3 X g).1)
    cases t with
    | true => exact sl_tupA
    | false => exact sl_list
  | .lc it tg cond el, sc, Γ, Γ', x, τ, W, h => by
    obtain ⟨elt, tgx, iter, ifs, scope, p, τi, Γ1, t, rfl, h1, rfl, h2, h3, h4, h5, h6, h7, h8, h9, h10, rfl⟩ := ckE_lc h
    obtain ⟨wi, pi, ei⟩ := ckI_ok C it sc false Γ Γ1 tgx iter τi W h1
    obtain ⟨⟨te, pe, ee⟩, _⟩ := ckE_ok C el (relS scope sc) _ _ elt t W0 h3
    have hc : ∃ tt, (∀ X, Good G lv W0 (relS scope sc) X → PTs X ifs tt) ∧ EvT G W0 tt (tg.ty τi (clearT tg.slots Γ1)) fun ρ => (ev c cond ρ).bind toB := by
      rcases h2 with ⟨rfl, rfl⟩ | ⟨y, t', rfl, h2, n⟩
      · exact ⟨tYes, fun X g => pts_nil, evT_const⟩
      · obtain ⟨_, k⟩ := ckE_ok C cond (relS scope sc) _ _ y t' W0 h2
        obtain ⟨tt, pt, et⟩ := k n rfl
        exact ⟨tt, fun X g => pts_one (pt X g).1, et⟩
    obtain ⟨tt, ptt, ett⟩ := hc
    have he : EvE G W (tLc wi (gOf G.K tg) tt te ((ownN F.N tg).map (·.2))) Γ (clearT tg.slots Γ1) (.N .o t) (ev c (.lc it tg cond el)) := by
      rw [own_slots]
      exact (EvE.lc ei (EvG.of h10) ett ee h4 h5 h6).fn fun ρ => rfl
    have hb : ∀ X, Good G lv W sc X → BlkOk X.N X.env.scope scope (ownN F.N tg) := fun X g => by
      have := g.sc
      subst this
      rw [g.N, ← C.N]
      exact blkOk_by h7
    have pel : ∀ X, Good G lv W sc X → PE X (.ListComp elt [⟨tgx, iter, ifs, 0⟩] scope p) (tLc wi (gOf G.K tg) tt te ((ownN F.N tg).map (·.2))) := fun X g =>
      pe_lc g.calm g.nd (pi X g) (hb X g) (fun s H C' cl fp => pg_blk g C.N h8 s H C' cl fp) (fun s H C' cl fp => ptt _ (g.blk s H C' cl fp)) (fun s H C' cl fp => (pe _ (g.blk s H C' cl fp)).1) (set_iter h9)
    refine ⟨⟨_, fun X g => ⟨pel X g, fun elt' gs scope' pos' e i y py spos hy hl hsw => ?_⟩, he⟩, fun _ eq => ⟨_, fun X g => (pel X g).ptx rfl, ?_⟩⟩
    · cases e
      exact ps_setLc g.calm g.nd hy hl hsw (pi X g) (hb X g) (fun s H C' cl fp => pg_blk g C.N h8 s H C' cl fp) (fun s H C' cl fp => ptt _ (g.blk s H C' cl fp)) (fun s H C' cl fp => (pe _ (g.blk s H C' cl fp)).1) (set_iter h9)
    · subst eq
      exact he.test
  | .lcR it i tg cond el, sc, Γ, Γ', x, τ, W, h => by
    obtain ⟨elt, tgx, iter, ifs, scope, p, τi, t, rfl, h1, rfl, h2, h3, h4, h5, h6, h7, h8, h9, h10, rfl⟩ := ckE_lcR h
    obtain ⟨t1, e1, pi, ei⟩ := rowT_ok (W := W) C h1
    obtain ⟨⟨te, pe, ee⟩, _⟩ := ckE_ok C el (relS scope sc) _ _ elt t W0 h3
    have hc : ∃ tt, (∀ X, Good G lv W0 (relS scope sc) X → PTs X ifs tt) ∧ EvT G W0 tt (tg.ty τi (clearT tg.slots Γ)) fun ρ => (ev c cond ρ).bind toB := by
      rcases h2 with ⟨rfl, rfl⟩ | ⟨y, t', rfl, h2, n⟩
      · exact ⟨tYes, fun X g => pts_nil, evT_const⟩
      · obtain ⟨_, k⟩ := ckE_ok C cond (relS scope sc) _ _ y t' W0 h2
        obtain ⟨tt, pt, et⟩ := k n rfl
        exact ⟨tt, fun X g => pts_one (pt X g).1, et⟩
    obtain ⟨tt, ptt, ett⟩ := hc
    have he : EvE G W (tLkE (tLc (iRow G.w it i) (gOf G.K tg) tt te ((ownN F.N tg).map (·.2)))) Γ (clearT tg.slots Γ) (.N .o t) (ev c (.lcR it i tg cond el)) := by
      rw [own_slots]
      refine EvE.lockE e1 (fun ρ hn => ?_) (fun ρ x => ?_) (EvE.lcP ei (EvG.of h10) ett ee h4 h5 h6)
      · show (rowsD it (ρ.getD i .none)).bind _ = _
        cases e : ρ.getD i .none with
        | dict kvs => exact absurd e (hn kvs)
        | _ => rfl
      · show (rowsD it (ρ.getD i .none)).bind _ ≠ _
        cases ρ.getD i .none with
        | dict kvs =>
          exact map_ne fun x => lcD_ne lcF_ne _ x
        | _ => exact fun q => nomatch q
    have hb : ∀ X, Good G lv W sc X → BlkOk X.N X.env.scope scope (ownN F.N tg) := fun X g => by
      have := g.sc
      subst this
      rw [g.N, ← C.N]
      exact blkOk_by h7
    have pel : ∀ X, Good G lv W sc X → PE X (.ListComp elt [⟨tgx, iter, ifs, 0⟩] scope p) (tLc (iRow G.w it i) (gOf G.K tg) tt te ((ownN F.N tg).map (·.2))) := fun X g =>
      pe_lc g.calm g.nd (pi X g) (hb X g) (fun s H C' cl fp => pg_blk g C.N h8 s H C' cl fp) (fun s H C' cl fp => ptt _ (g.blk s H C' cl fp)) (fun s H C' cl fp => (pe _ (g.blk s H C' cl fp)).1) (set_iter h9)
    refine ⟨⟨_, fun X g => ⟨pe_lkE (pel X g), fun elt' gs scope' pos' e j y py spos hy hl hsw => ?_⟩, he⟩, fun _ eq => ⟨_, fun X g => (pe_lkE (pel X g)).ptx rfl, ?_⟩⟩
    · cases e
      refine ps_lkA ?_
      exact ps_setLc g.calm g.nd hy hl hsw (pi X g) (hb X g) (fun s H C' cl fp => pg_blk g C.N h8 s H C' cl fp) (fun s H C' cl fp => ptt _ (g.blk s H C' cl fp)) (fun s H C' cl fp => (pe _ (g.blk s H C' cl fp)).1) (set_iter h9)
    · have he' := he
      rw [eq] at he'
      exact he'.test
  | .imm e, sc, Γ, Γ', x, τ, W, h => by
    obtain ⟨t, h1, rfl⟩ := ckE_imm h
    obtain ⟨⟨te, p1, e1⟩, k⟩ := ckE_ok C e sc Γ Γ' x _ W h1
    refine ⟨⟨te, p1, e1.imm.fn fun ρ => rfl⟩, fun n eq => ?_⟩
    obtain ⟨tt, pt, et⟩ := k n eq
    exact ⟨tt, pt, et.fn fun ρ => toB_imm _⟩
  | .co t e, sc, Γ, Γ', x, τ, W, h => by
    obtain ⟨t', h1, h2, rfl⟩ := ckE_co h
    obtain ⟨⟨te, p1, e1⟩, k⟩ := ckE_ok C e sc Γ Γ' x _ W h1
    refine ⟨⟨te, p1, (e1.sub h2).fn fun ρ => rfl⟩, fun n eq => ?_⟩
    obtain ⟨tt, pt, et⟩ := k n eq
    exact ⟨tt, pt, et.fn fun ρ => rfl⟩
theorem ckEsL_ok (C : CallsOk G lv F c) : ∀ (es : Es) (sc : Scope) (Γ Γ' : TyEnv) (xs : List Expr) (τs : List Ty) (W : WX), ckEs F es sc Γ xs = some (τs, Γ') → RdL G lv W sc c xs es Γ Γ' τs
  | .nil, sc, Γ, Γ', xs, τs, W, h => by
    obtain ⟨rfl, rfl, rfl⟩ := ckEs_nil h
    exact .nil
  | .cons e es, sc, Γ, Γ', xs, τs, W, h => by
    obtain ⟨y, ys, t, ts, Γ1, rfl, n, h1, h2, rfl⟩ := ckEs_cons h
    obtain ⟨⟨te, p1, e1⟩, _⟩ := ckE_ok C e sc Γ Γ1 y t W h1
    exact .cons n (fun X g => (p1 X g).1) e1 (ckEsL_ok C es sc Γ1 Γ' ys ts W h2)
theorem ckEs_ok (C : CallsOk G lv F c) : ∀ (es : Es) (sc : Scope) (Γ Γ' : TyEnv) (xs : List Expr) (τs : List Ty) (W : WX), ckEs F es sc Γ xs = some (τs, Γ') → RdEs G lv sc W c xs es Γ Γ' τs
  | .nil, sc, Γ, Γ', xs, τs, W, h => by
    obtain ⟨rfl, rfl, rfl⟩ := ckEs_nil h
    exact ⟨[], fun X g => .nil, EvA.nil⟩
  | .cons e es, sc, Γ, Γ', xs, τs, W, h => by
    obtain ⟨y, ys, t, ts, Γ1, rfl, n, h1, h2, rfl⟩ := ckEs_cons h
    obtain ⟨⟨te, p1, e1⟩, _⟩ := ckE_ok C e sc Γ Γ1 y t W h1
    obtain ⟨tes, p2, e2⟩ := ckEs_ok C es sc Γ1 Γ' ys ts W h2
    exact ⟨te :: tes, fun X g => .cons n (p1 X g).1 (p2 X g), EvA.cons e1 e2⟩
theorem ckI_ok (C : CallsOk G lv F c) : ∀ (it : It) (sc : Scope) (fz : Bool) (Γ Γ' : TyEnv) (tgx x : Expr) (τ : Ty) (W : WX), ckI F it sc fz Γ tgx x = some (τ, Γ') → RdI G lv sc W c fz tgx x it Γ Γ' τ
  | .lst e, sc, fz, Γ, Γ', tgx, x, τ, W, h => by
    obtain ⟨t, h1, h2, rfl⟩ := ckI_lst h
    obtain ⟨⟨te, p1, e1⟩, _⟩ := ckE_ok C e sc Γ Γ' x t W h1
    exact ⟨_, fun X g => by rw [← g.K]; exact pi_list (pi_sz (tg := tgx) (p1 X g).1), EvI.lst (e1.sub h2)⟩
  | .tup e, sc, fz, Γ, Γ', tgx, x, τ, W, h => by
    obtain ⟨t, h1, h2, rfl⟩ := ckI_tup h
    obtain ⟨⟨te, p1, e1⟩, _⟩ := ckE_ok C e sc Γ Γ' x t W h1
    exact ⟨_, fun X g => by rw [← g.K]; exact pi_tup (pi_sz (tg := tgx) (p1 X g).1), EvI.tup (e1.sub h2)⟩
  | .enum e, sc, fz, Γ, Γ', tgx, x, τ, W, h => by
    obtain ⟨p, y, p', t, rfl, h1, h2, h3, h4, h5, rfl⟩ := ckI_enum h
    obtain ⟨es, k, q, rfl⟩ := isTuple_inv h4
    obtain ⟨⟨te, p1, e1⟩, _⟩ := ckE_ok C e sc Γ Γ' y t W h1
    exact ⟨_, fun X g => by rw [← g.K]; exact pi_enum (g.gl h3) (g.m (by decide)) (pa_cons (pi_sz (tg := y) (p1 X g).1) pa_nil (star_of h5 _ _)) (star_of h5 _ _), EvI.enum (e1.sub h2)⟩
  | .rng (.cons e .nil), sc, fz, Γ, Γ', tgx, x, τ, W, h => by
    obtain ⟨rfl, h1, ⟨e', p, y, p', t, he, rfl, h2, h3⟩ | ⟨e', e'', p, y, y', p', t, t', Γ1, he, rfl, h2, h3, h4, h5⟩ | ⟨e', e'', p, y, y', y'', p', t, t', t'', Γ1, Γ2, he, rfl, h2, h3, h6, h4, h5, h7⟩⟩ := ckI_rng h
    · cases he
      obtain ⟨⟨te, p1, e1⟩, _⟩ := ckE_ok C e sc Γ Γ' y t W h2
      exact ⟨_, fun X g => pi_range1 (g.gl h1) (g.m (by decide)) (pa_cons (p1 X g).1 pa_nil (star_of h3 _ _)) (star_of h3 _ _), EvI.rng1 e1⟩
    · cases he
    · cases he
  | .rng (.cons e (.cons e2 .nil)), sc, fz, Γ, Γ', tgx, x, τ, W, h => by
    obtain ⟨rfl, h1, ⟨e', p, y, p', t, he, rfl, h2, h3⟩ | ⟨e', e'', p, y, y', p', t, t', Γ1, he, rfl, h2, h3, h4, h5⟩ | ⟨e', e'', p, y, y', y'', p', t, t', t'', Γ1, Γ2, he, rfl, h2, h3, h6, h4, h5, h7⟩⟩ := ckI_rng h
    · cases he
    · cases he
      obtain ⟨⟨te, p1, e1⟩, _⟩ := ckE_ok C e sc Γ Γ1 y t W h2
      obtain ⟨⟨te2, p2, e2'⟩, _⟩ := ckE_ok C e2 sc Γ1 Γ' y' t' W h3
      exact ⟨_, fun X g => pi_range2 (g.gl h1) (g.m (by decide)) (pa_cons (p1 X g).1 (pa_cons (p2 X g).1 pa_nil (star_of h5 _ _)) (star_of h4 _ _)) (by rw [star_of h4, star_of h5]; rfl) (star_of h5 _ _), EvI.rng2 e1 e2'⟩
    · cases he
  | .rng .nil, sc, fz, Γ, Γ', tgx, x, τ, W, h => by
    obtain ⟨rfl, h1, ⟨e', p, y, p', t, he, rfl, h2, h3⟩ | ⟨e', e'', p, y, y', p', t, t', Γ1, he, rfl, h2, h3, h4, h5⟩ | ⟨e', e'', p, y, y', y'', p', t, t', t'', Γ1, Γ2, he, rfl, h2, h3, h6, h4, h5, h7⟩⟩ := ckI_rng h <;> cases he
  | .rng (.cons e (.cons e2 (.cons e3 r))), sc, fz, Γ, Γ', tgx, x, τ, W, h => by
    obtain ⟨rfl, h1, ⟨e', p, y, p', t, he, rfl, h2, h3⟩ | ⟨e', e'', p, y, y', p', t, t', Γ1, he, rfl, h2, h3, h4, h5⟩ | ⟨e', e'', p, y, y', y'', p', t, t', t'', Γ1, Γ2, he, rfl, h2, h3, h6, h4, h5, h7⟩⟩ := ckI_rng h
    · cases he
    · cases he
    · cases he
      obtain ⟨⟨te, p1, e1⟩, _⟩ := ckE_ok C e sc Γ Γ1 y t W h2
      obtain ⟨⟨te2, p2, e2'⟩, _⟩ := ckE_ok C e2 sc Γ1 Γ2 y' t' W h3
      obtain ⟨⟨te3, p3, e3'⟩, _⟩ := ckE_ok C (.op .neg (.cons (.k (.int 1)) .nil)) sc Γ2 Γ' y'' t'' W h6
      exact ⟨_, fun X g => pi_range3 (g.gl h1) (g.m (by decide)) (pa_cons (p1 X g).1 (pa_cons (p2 X g).1 (pa_cons (p3 X g).1 pa_nil (star_of h7 _ _)) (star_of h5 _ _)) (star_of h4 _ _)) (star_of h4 _ _) (by rw [star_of h5, star_of h7]; rfl), EvI.rng3 e1 e2' e3' fun ρ => rfl⟩
  | .zipL (.cons e (.cons e2 .nil)), sc, fz, Γ, Γ', tgx, x, τ, W, h => by
    obtain ⟨a, b, p, y, y', p', t, t', Γ1, he, rfl, h1, h2, h3, h4, h5, h6, h7, h8, h9⟩ := ckI_zipL h
    cases he
    obtain ⟨es, k, q, rfl⟩ := isTuple_inv h9
    obtain ⟨⟨te, p1, e1⟩, _⟩ := ckE_ok C e sc Γ Γ1 y t W h1
    obtain ⟨⟨te2, p2, e2'⟩, _⟩ := ckE_ok C e2 sc Γ1 Γ' y' t' W h2
    exact ⟨_, fun X g => by rw [← g.K]; exact pi_zipA (g.gl h4) (g.m (by decide)) (pa_cons (p1 X g).1 (pa_cons (pi_sz (tg := y) (p2 X g).1) pa_nil (star_of h6 _ _)) (star_of h5 _ _)) (star_of h5 _ _) (by rw [star_of h6]; rfl), EvI.zipL (e1.sub h7) (e2'.sub h8) h3⟩
  | .zipL .nil, sc, fz, Γ, Γ', tgx, x, τ, W, h => by obtain ⟨a, b, p, y, y', p', t, t', Γ1, he, _⟩ := ckI_zipL h; cases he
  | .zipL (.cons e .nil), sc, fz, Γ, Γ', tgx, x, τ, W, h => by obtain ⟨a, b, p, y, y', p', t, t', Γ1, he, _⟩ := ckI_zipL h; cases he
  | .zipL (.cons e (.cons e2 (.cons e3 r))), sc, fz, Γ, Γ', tgx, x, τ, W, h => by obtain ⟨a, b, p, y, y', p', t, t', Γ1, he, _⟩ := ckI_zipL h; cases he
  | .zipT (.cons e (.cons e2 .nil)), sc, fz, Γ, Γ', tgx, x, τ, W, h => by
    obtain ⟨a, b, p, y, y', p', t, t', Γ1, he, rfl, h1, h2, h3, h4, h5, h6, h7, h8, h9⟩ | ⟨_, _, _, _, _, _, _, _, _, _, _, _, _, _, he, _⟩ := ckI_zipT h
    · cases he
      obtain ⟨es, k, q, rfl⟩ := isTuple_inv h9
      obtain ⟨⟨te, p1, e1⟩, _⟩ := ckE_ok C e sc Γ Γ1 y t W h1
      obtain ⟨⟨te2, p2, e2'⟩, _⟩ := ckE_ok C e2 sc Γ1 Γ' y' t' W h2
      exact ⟨_, fun X g => by rw [← g.K]; exact pi_zipA (g.gl h4) (g.m (by decide)) (pa_cons (p1 X g).1 (pa_cons (pi_sz (tg := y) (p2 X g).1) pa_nil (star_of h6 _ _)) (star_of h5 _ _)) (star_of h5 _ _) (by rw [star_of h6]; rfl), EvI.zipT (e1.sub h7) (e2'.sub h8) h3⟩
    · cases he
  | .zipT (.cons e (.cons e2 (.cons e3 .nil))), sc, fz, Γ, Γ', tgx, x, τ, W, h => by
    obtain ⟨_, _, _, _, _, _, _, _, _, he, _⟩ | ⟨a, b, c', p, y, y', y'', p', t, t', t'', u0, Γ1, Γ2, he, rfl, h1, h2, h3, h4, h5, h6, h7, h8, h9, h10, h11, h12, h13, h14⟩ := ckI_zipT h
    · cases he
    · cases he
      obtain ⟨es, k, q, rfl⟩ := isTuple_inv h14
      obtain ⟨⟨te, p1, e1⟩, _⟩ := ckE_ok C e sc Γ Γ1 y t W h1
      obtain ⟨⟨te2, p2, e2'⟩, _⟩ := ckE_ok C e2 sc Γ1 Γ2 y' t' W h2
      obtain ⟨⟨te3, p3, e3'⟩, _⟩ := ckE_ok C e3 sc Γ2 Γ' y'' t'' W h3
      exact ⟨_, fun X g => by rw [← g.K]; exact pi_zipT3 (g.gl h5) (g.m (by decide)) (pa_cons (p1 X g).1 (pa_cons (p2 X g).1 (pa_cons (pi_sz (tg := y) (p3 X g).1) pa_nil (star_of h8 _ _)) (star_of h7 _ _)) (star_of h6 _ _)) (star_of h6 _ _) (by rw [star_of h7, star_of h8]; rfl), EvI.zipT3 (e1.sub h9) (e2'.sub h10) (e3'.sub h11) h12 h13 (lubT_inv h4).2⟩
  | .zipT .nil, sc, fz, Γ, Γ', tgx, x, τ, W, h => by obtain ⟨_, _, _, _, _, _, _, _, _, he, _⟩ | ⟨_, _, _, _, _, _, _, _, _, _, _, _, _, _, he, _⟩ := ckI_zipT h <;> cases he
  | .zipT (.cons e .nil), sc, fz, Γ, Γ', tgx, x, τ, W, h => by obtain ⟨_, _, _, _, _, _, _, _, _, he, _⟩ | ⟨_, _, _, _, _, _, _, _, _, _, _, _, _, _, he, _⟩ := ckI_zipT h <;> cases he
  | .zipT (.cons e (.cons e2 (.cons e3 (.cons e4 r)))), sc, fz, Γ, Γ', tgx, x, τ, W, h => by obtain ⟨_, _, _, _, _, _, _, _, _, he, _⟩ | ⟨_, _, _, _, _, _, _, _, _, _, _, _, _, _, he, _⟩ := ckI_zipT h <;> cases he
  | .keys _, sc, fz, Γ, Γ', tgx, x, τ, W, h => by
    exfalso
    unfold ckI at h
    cases h
  | .items _, sc, fz, Γ, Γ', tgx, x, τ, W, h => by
    exfalso
    unfold ckI at h
    cases h
end
end En

set_option Elab.async false
set_option linter.all false
set_option autoImplicit false
set_option maxRecDepth 100000
set_option maxHeartbeats 1000000
namespace En
open PySem PySem.Spec PyProof.Rows L2 RZ
variable {G : Gx} {W : WX} {H H' H'' : Hp} {z z' z'' : Addr → Prop} {τ τ' τ0 : Ty} {d d0 : D} {v v0 : V} {ds : List D} {vs : List V} {m m' m1 m2 m0 : Ow} {Γ Γ' Γ1 Γ2 : TyEnv} {ρ ρ' : Env} {σ σ' : L2.St} {τs : List Ty} {τr : Ty} {i : Nat}

/-! ## changes along a path -/
/-- the type at a path's end -/
def pthT : List Bool → Ty → Option Ty
  | [], τ => some τ
  | false :: n, τ => pthT n τ
  | true :: n, .N .o t => pthT n t
  | true :: _, _ => none
/-- a tuple reads in one way -/
def AgT (K : Frag) (H : Hp) : Prop := ∀ (a : Addr) (vs vs' : List V), SqT K H a vs → SqT K H a vs' → vs = vs'
theorem AgT.of {X : Cx} {pins : List (Addr × Obj)} {s : Shared} (I : Inv X pins σ H s) : AgT X.K H := fun a vs vs' h h' => I.tuple_inj h h'
/-- a path by its values -/
inductive PV (K : Frag) (H : Hp) : V → List D → V → Prop
  | nil {v : V} : PV K H v [] v
  | cons {a : Addr} {vs : List V} {i : Int} {j : Nat} {v v0 : V} {ks : List D} : H a = some (.lst vs) → ixN vs.length i = some j → vs[j]? = some v → PV K H v ks v0 → PV K H (.ref a) (.int i :: ks) v0
  | tup {a : Addr} {vs : List V} {i : Int} {j : Nat} {v v0 : V} {ks : List D} : SqT K H a vs → ixN vs.length i = some j → vs[j]? = some v → PV K H v ks v0 → PV K H (.ref a) (.tuple [.int i] :: ks) v0
variable {K : Frag}
theorem PV.ext {ks : List D} (h : PV K H v ks v0) (e : Ext H H') : PV K H' v ks v0 := by
  induction h with
  | nil => exact .nil
  | cons a b c _ ih => exact .cons (e _ _ a) b c ih
  | tup a b c _ ih => exact .tup (SqT.same a fun u _ q => e _ _ q) b c ih
theorem PV.det {ks : List D} {v1 : V} (ag : AgT K H) (h : PV K H v ks v0) (h' : PV K H v ks v1) : v0 = v1 := by
  induction h with
  | nil => cases h'; rfl
  | cons a b c _ ih =>
    cases h' with
    | cons a' b' c' r =>
      rw [a] at a'
      cases a'
      rw [b] at b'
      cases b'
      rw [c] at c'
      cases c'
      exact ih r
  | tup a b c _ ih =>
    cases h' with
    | tup a' b' c' r =>
      obtain rfl := ag _ _ _ a a'
      rw [b] at b'
      cases b'
      rw [c] at c'
      cases c'
      exact ih r
theorem PV.snoc {ks : List D} {a : Addr} {i : Int} {j : Nat} {v1 : V} (h : PV K H v ks (.ref a)) (h1 : H a = some (.lst vs)) (h2 : ixN vs.length i = some j) (h3 : vs[j]? = some v1) : PV K H v (ks ++ [.int i]) v1 := by
  generalize e : V.ref a = w at h
  induction h with
  | nil => subst e; exact .cons h1 h2 h3 .nil
  | cons a b c _ ih => exact .cons a b c (ih e)
  | tup a b c _ ih => exact .tup a b c (ih e)
theorem PV.snocT {ks : List D} {a : Addr} {i : Int} {j : Nat} {v1 : V} (h : PV K H v ks (.ref a)) (h1 : SqT K H a vs) (h2 : ixN vs.length i = some j) (h3 : vs[j]? = some v1) : PV K H v (ks ++ [.tuple [.int i]]) v1 := by
  generalize e : V.ref a = w at h
  induction h with
  | nil => subst e; exact .tup h1 h2 h3 .nil
  | cons a b c _ ih => exact .cons a b c (ih e)
  | tup a b c _ ih => exact .tup a b c (ih e)
theorem getAt_snoc : ∀ (ks : List D) (k d : D), getAt (ks ++ [k]) d = (getAt ks d).bind fun x => getAt [k] x
  | [], k, d => by simp [getAt]
  | k' :: ks, k, d => by
    cases k' with
    | int i =>
      cases d with
      | list xs =>
        simp only [List.cons_append, getAt]
        cases ixN xs.length i with
        | none => rfl
        | some j =>
          simp only [Option.bind_some]
          cases xs[j]? with
          | none => rfl
          | some x => simp only [Option.bind_some]; exact getAt_snoc ks k x
      | _ => rfl
    | tuple l =>
      cases l with
      | nil => rfl
      | cons y r =>
        cases r with
        | cons _ _ => cases y <;> rfl
        | nil =>
          cases y with
          | int i =>
            cases d with
            | tuple xs =>
              simp only [List.cons_append, getAt]
              cases ixN xs.length i with
              | none => rfl
              | some j =>
                simp only [Option.bind_some]
                cases xs[j]? with
                | none => rfl
                | some x => simp only [Option.bind_some]; exact getAt_snoc ks k x
            | _ => rfl
          | _ => rfl
    | _ => rfl
/-- one of a row, the others -/
theorem RL.at_ : ∀ {ds : List D} {vs : List V} {m : Ow} {j : Nat}, RL G.F H z τ ds vs m → ds[j]? = some d → ∃ (v : V) (m0 mr : Ow), vs[j]? = some v ∧ Rp G.F H z τ d v m0 ∧ (∀ b, m b = m0 b + mr b) ∧
    ∀ (p : Addr) (o : HO) (d1 : D) (m1 : Ow), τ.st = true → Ok H z (fun b => one p b + mr b) → Rp G.F (upd H p o) z τ d1 v m1 → RL G.F (upd H p o) z τ (ds.set j d1) vs fun b => m1 b + mr b
  | [], vs, m, j, h, e => by simp at e
  | x :: ds, vs, m, 0, h, e => by
    cases vs with
    | nil => cases h
    | cons v vs =>
      obtain ⟨m1, m2, h1, h2, h3⟩ := h.uncons
      simp only [List.getElem?_cons_zero, Option.some.injEq] at e
      subst e
      refine ⟨v, m1, m2, rfl, h1, h3, fun p o d1 m1' hs ok r => ?_⟩
      exact RL.cons' r (h2.write hs ok) fun _ => rfl
  | x :: ds, vs, m, j + 1, h, e => by
    cases vs with
    | nil => cases h
    | cons v vs =>
      obtain ⟨m1, m2, h1, h2, h3⟩ := h.uncons
      obtain ⟨w, m0, mr, q1, q2, q3, q4⟩ := RL.at_ (j := j) h2 (by simpa using e)
      refine ⟨w, m0, fun b => m1 b + mr b, by simpa using q1, q2, fun b => by have := h3 b; have := q3 b; simp only; omega, fun p o d1 m1' hs ok r => ?_⟩
      exact RL.cons' (h1.write hs (ok.drop fun b => by simp only; omega)) (q4 p o d1 m1' hs (ok.drop fun b => by simp only; omega) r) fun b => by simp only; omega
theorem Box.ownH {K : Frag} {a : Addr} {o : HO} {w : Prop} (h : Box K H z a o w .o m) : H a = some o ∧ ∀ b, m b = one a b := h
/-- what is owned along a path -/
theorem focus : ∀ (ks : List D) {τ : Ty} {d : D} {v : V} {m : Ow}, Rp G.F H z τ d v m → pthT (ks.map shK) τ = some τ0 → τ.st = true → getAt ks d = some d0 → ∃ (v0 : V) (m0 mr : Ow), Rp G.F H z τ0 d0 v0 m0 ∧ (∀ b, m b = m0 b + mr b) ∧ PV G.K H v ks v0 ∧ τ0.st = true ∧
    ∀ (p : Addr) (o : HO) (d1 : D) (m1 : Ow) (f : D → Option D), Ok H z (fun b => one p b + mr b) → f d0 = some d1 → Rp G.F (upd H p o) z τ0 d1 v0 m1 → ∃ d', updAt f ks d = some d' ∧ Rp G.F (upd H p o) z τ d' v fun b => m1 b + mr b
  | [], τ, d, v, m, h, ht, hs, hg => by
    cases ht
    cases hg
    exact ⟨v, m, fun _ => 0, h, fun b => by simp, .nil, hs, fun p o d1 m1 f ok e r => ⟨d1, e, r.eqm fun b => by simp⟩⟩
  | k :: ks, τ, d, v, m, h, ht, hs, hg => by
    cases k with
    | int i =>
      cases d with
      | list xs =>
        obtain ⟨q, t, a, vs, n0, n1, rfl, rfl, hb, rl, hm⟩ := Rp.list_inv h
        cases q with
        | o =>
          obtain ⟨hH, hone⟩ := Box.ownH hb
          simp only [getAt] at hg
          cases ej : ixN xs.length i with
          | none => rw [ej] at hg; cases hg
          | some j =>
            rw [ej, Option.bind_some] at hg
            cases ex : xs[j]? with
            | none => rw [ex] at hg; cases hg
            | some x =>
              rw [ex, Option.bind_some] at hg
              have hs' : t.st = true := (Ty.st_inv hs).2
              obtain ⟨w, mx, mr, q1, q2, q3, q4⟩ := rl.at_ ex
              obtain ⟨v0, m0, mr', r1, r2, r3, r4, r5⟩ := focus ks q2 (by simpa [pthT, shK] using ht) hs' hg
              refine ⟨v0, m0, fun b => one a b + mr b + mr' b, r1, fun b => by have := hm b; have := hone b; have := q3 b; have := r2 b; simp only; omega, .cons hH (by rw [← rl.length]; exact ej) q1 r3, r4, fun p o d1 m1 f ok e r => ?_⟩
              have ap : a ≠ p := by
                intro e
                subst e
                have := (ok a).1
                simp only [one_self] at this
                omega
              obtain ⟨d', u1, u2⟩ := r5 p o d1 m1 f (ok.drop fun b => by simp only; omega) e r
              refine ⟨.list (xs.set j d'), ?_, ?_⟩
              · simp only [updAt, ej, Option.bind_some, ex, u1, Option.map_some]
              · refine Rp.mkL (q := .o) (m0 := one a) (m1 := fun b => (m1 b + mr' b) + mr b) ⟨?_, fun _ => rfl⟩ (q4 p o d' _ hs' (ok.drop fun b => by simp only; omega) u2) fun b => by simp only; omega
                rw [upd_ne ap]
                exact hH
        | f => simp [pthT, shK] at ht
        | r => simp [pthT, shK] at ht
      | _ => simp [getAt] at hg
    | tuple l =>
      match l, hg with
      | [.int i], hg =>
        cases d with
        | tuple xs =>
          obtain ⟨a, vs, rfl, hb, rl⟩ := Rp.tup_inv h
          simp only [getAt] at hg
          cases ej : ixN xs.length i with
          | none => rw [ej] at hg; cases hg
          | some j =>
            rw [ej, Option.bind_some] at hg
            cases ex : xs[j]? with
            | none => rw [ex] at hg; cases hg
            | some x =>
              rw [ex, Option.bind_some] at hg
              obtain ⟨w, mx, mr, q1, q2, q3, q4⟩ := rl.at_ ex
              obtain ⟨v0, m0, mr', r1, r2, r3, r4, r5⟩ := focus ks q2 (by simpa [pthT, shK] using ht) hs hg
              refine ⟨v0, m0, fun b => mr b + mr' b, r1, fun b => by have := q3 b; have := r2 b; simp only; omega, .tup hb (by rw [← rl.length]; exact ej) q1 r3, r4, fun p o d1 m1 f ok e r => ?_⟩
              obtain ⟨d', u1, u2⟩ := r5 p o d1 m1 f (ok.drop fun b => by simp only; omega) e r
              refine ⟨.tuple (xs.set j d'), ?_, ?_⟩
              · simp only [updAt, ej, Option.bind_some, ex, u1, Option.map_some]
              · have sq : SqT G.K (upd H p o) a vs := SqT.same hb fun u nm q => by
                  have ap : a ≠ p := by
                    intro e
                    subst e
                    have h1 := (ok a).1
                    simp only [one_self] at h1
                    have h2 := ((ok a).2.1 (by simp only [one_self]; omega)).2
                    rw [q] at h2
                    exact nm h2
                  rw [upd_ne ap]
                  exact q
                exact (Rp.mkT sq (q4 p o d' _ hs (ok.drop fun b => by simp only; omega) u2)).eqm fun b => by simp only; omega
        | _ => simp [getAt] at hg
      | [], hg => simp [getAt] at hg
      | .none :: _, hg => simp [getAt] at hg
      | .bool _ :: _, hg => simp [getAt] at hg
      | .str _ :: _, hg => simp [getAt] at hg
      | .tuple _ :: _, hg => simp [getAt] at hg
      | .list _ :: _, hg => simp [getAt] at hg
      | .dict _ :: _, hg => simp [getAt] at hg
      | .int _ :: _ :: _, hg => simp [getAt] at hg
    | _ => simp [getAt] at hg
/-! ### reading a path -/
def PthE (G : Gx) (t : TE) (Γ : TyEnv) (i : Nat) (n : List Bool) (f : Env → Res (List D)) : Prop :=
  ∀ (ρ : Env) (σ : L2.St) (H : Hp) (z : Addr → Prop) (m : Ow), SE G.F H z Γ ρ σ m → Ok H z m → ∀ ks, f ρ = .ok ks → ks.map shK = n → (getAt ks (ρ.getD i .none)).isSome = true → ∀ Q : VK,
    (∀ (v v0 : V) (H' : Hp) (z' : Addr → Prop) (m1 : Ow), σ[i]? = some (some v) → PV G.K H' v ks v0 → SE G.F H' z' Γ ρ σ m1 → Stp H z m H' z' m1 → Ext H H' → Q v0 H') → t σ H Q
theorem PthE.var (hi : Γ[i]? = some (some τ)) : PthE G (tVar i) Γ i [] fun _ => .ok [] := by
  intro ρ σ H z m se ok ks e _ _ Q h
  cases e
  obtain ⟨v, m1, m2, h1, h2, _, _⟩ := se.get hi
  exact ⟨v, h1, h v v H z m h1 .nil se (Stp.refl ok) Ext.refl⟩
theorem pthT_inv : ∀ {n : List Bool} {τ τ0 : Ty}, pthT (n ++ [true]) τ = some τ0 → ∃ t, pthT n τ = some (.N .o t) ∧ τ0 = t
  | [], τ, τ0, h => by
    cases τ with
    | I => simp [pthT] at h
    | N q t => cases q <;> simp [pthT] at h; exact ⟨t, rfl, h.symm⟩
  | false :: n, τ, τ0, h => pthT_inv (n := n) h
  | true :: n, τ, τ0, h => by
    cases τ with
    | I => simp [pthT] at h
    | N q t =>
      cases q <;> simp only [List.cons_append, pthT] at h
      · obtain ⟨t', h1, h2⟩ := pthT_inv (n := n) (τ := t) h
        exact ⟨t', h1, h2⟩
      · cases h
      · cases h
theorem pthT_invF : ∀ {n : List Bool} {τ τ0 : Ty}, pthT (n ++ [false]) τ = some τ0 → pthT n τ = some τ0
  | [], τ, τ0, h => h
  | false :: n, τ, τ0, h => pthT_invF (n := n) h
  | true :: n, τ, τ0, h => by
    cases τ with
    | I => simp [pthT] at h
    | N q t =>
      cases q <;> simp only [List.cons_append, pthT] at h
      · exact pthT_invF (n := n) (τ := t) h
      · cases h
      · cases h
theorem getAt1 {i : Int} {d x : D} (h : getAt [.int i] d = some x) : ∃ xs j, d = .list xs ∧ ixN xs.length i = some j ∧ xs[j]? = some x := by
  cases d with
  | list xs =>
    simp only [getAt] at h
    cases e : ixN xs.length i with
    | none => rw [e] at h; cases h
    | some j =>
      rw [e, Option.bind_some] at h
      cases e2 : xs[j]? with
      | none => rw [e2] at h; cases h
      | some y =>
        rw [e2, Option.bind_some] at h
        cases h
        exact ⟨xs, j, rfl, e, e2⟩
  | _ => simp [getAt] at h
theorem getAt1T {i : Int} {d x : D} (h : getAt [.tuple [.int i]] d = some x) : ∃ xs j, d = .tuple xs ∧ ixN xs.length i = some j ∧ xs[j]? = some x := by
  cases d with
  | tuple xs =>
    simp only [getAt] at h
    cases e : ixN xs.length i with
    | none => rw [e] at h; cases h
    | some j =>
      rw [e, Option.bind_some] at h
      cases e2 : xs[j]? with
      | none => rw [e2] at h; cases h
      | some y =>
        rw [e2, Option.bind_some] at h
        cases h
        exact ⟨xs, j, rfl, e, e2⟩
  | _ => simp [getAt] at h
/-- the guard -/
def gAg (K : Frag) (r : R2) : R2 := fun x y H Q => AgT K H → r x y H Q
/-- the guard on what is read -/
def tAg (K : Frag) (t : TE) : TE := fun σ H Q => t σ H fun v H1 => AgT K H1 → Q v H1
theorem pe_ag {X : Cx} {e : Expr} {t : TE} (h : PE X e t) : PE X e (tAg X.K t) := ⟨fun pins s σ H Q I hw => thn (h.run pins s σ H _ I hw) fun u s1 ⟨v, H1, I1, r, q⟩ => ⟨v, H1, I1, r, q (AgT.of I1)⟩⟩
def gAgM (K : Frag) (r : V → List V → Hp → VK → Prop) : V → List V → Hp → VK → Prop := fun x vs H Q => AgT K H → r x vs H Q
theorem mt_ag {X : Cx} {nm : String} {r : V → List V → Hp → VK → Prop} (h : MtR X nm r) : MtR X nm (gAgM X.K r) := fun pins s σ H x xs v us Q I rx rv q => h pins s σ H x xs v us Q I rx rv (q (AgT.of I))
theorem ix_ag {X : Cx} {r : R2} (h : IxR X r) : IxR X (gAg X.K r) := fun value slice pins s σ H x y v u Q I rx ry q hs => h value slice pins s σ H x y v u Q I rx ry (q (AgT.of I)) hs
def stepR (K : Frag) (b : Bool) : R2 := gAg K (if b then rIxL K else rIxT K)
theorem ix_step {X : Cx} (b : Bool) : IxR X (stepR X.K b) := by
  cases b
  · exact ix_ag ix_tup
  · exact ix_ag ix_list
/-- a step's data: an index, marked where it goes through a tuple -/
def stepD (b : Bool) (k : D) : D := if b then k else .tuple [k]
theorem PthE.step {n : List Bool} {b : Bool} {te tk : TE} {f : Env → Res (List D)} {g : Env → Res D} (hp : PthE G te Γ i n f) (hk : EvE G W tk Γ Γ τ' g) (hi : Γ[i]? = some (some τ)) (ht : pthT (n ++ [b]) τ = some τ0) (hs : τ.st = true) :
    PthE G (tOp (stepR G.K b) te tk) Γ i (n ++ [b]) fun ρ => (f ρ).bind fun ks => (g ρ).bind fun k => .ok (ks ++ [stepD b k]) := by
  intro ρ σ H z m se ok ks e sh hg Q h
  dsimp only at e
  cases e1 : f ρ with
  | ex _ => rw [e1] at e; cases e
  | bad => rw [e1] at e; cases e
  | ok ks1 =>
    rw [e1, Res.bind_ok] at e
    cases e2 : g ρ with
    | ex _ => rw [e2] at e; cases e
    | bad => rw [e2] at e; cases e
    | ok k =>
      rw [e2, Res.bind_ok] at e
      cases e
      rw [List.map_append] at sh
      obtain ⟨sh1, sh2⟩ := List.append_inj' sh rfl
      rw [getAt_snoc] at hg
      cases e3 : getAt ks1 (ρ.getD i .none) with
      | none => rw [e3] at hg; cases hg
      | some d0 =>
        rw [e3, Option.bind_some] at hg
        obtain ⟨x, hx⟩ := Option.isSome_iff_exists.mp hg
        have hq := hp ρ σ H z m se ok ks1 e1 sh1 (by rw [e3]; rfl)
        refine hq _ fun v v0 H1 z1 m1 q1 pv se1 st1 ex1 => ?_
        refine hk ρ σ H1 z1 m1 se1 st1.ok _ ?_
        rw [e2]
        intro w H2 z2 m2 mw se2 r2 st2 ex2
        have stT : Stp H z m H2 z2 m2 := st1.trans (st2.drop fun b => Nat.le_add_right _ _)
        intro ag
        obtain ⟨v', n1, n2, g1, g2, _, _⟩ := se2.get hi
        rw [q1] at g1
        cases g1
        cases b with
        | true =>
          have hk1 : ∃ j : Int, k = .int j := by
            have sh3 : shK k = true := by simpa [stepD] using sh2
            cases k with
            | int j => exact ⟨j, rfl⟩
            | tuple l => cases sh3
            | _ => simp [stepD, getAt] at hx
          obtain ⟨j, rfl⟩ := hk1
          obtain ⟨xs, l, rfl, h1, h2⟩ := getAt1 hx
          obtain rfl := Rp.int_inv r2
          obtain ⟨t, p1, rfl⟩ := pthT_inv ht
          obtain ⟨v2, k0, kr, f1, f2, f3, f4, _⟩ := focus ks1 g2 (by rw [sh1]; exact p1) hs e3
          obtain rfl := PV.det ag f3 (pv.ext ex2)
          obtain ⟨q, t', a, vs, s0, s1, e5, rfl, hb, rl, hm⟩ := Rp.list_inv f1
          cases e5
          obtain ⟨hH, _⟩ := Box.ownH hb
          obtain ⟨y, mr', y1, _, _⟩ := rl.get h2
          refine ⟨a, vs, j, y, rfl, rfl, .inl (.inl hH), by show (L2.ixN vs.length j).bind _ = _; rw [← rl.length, show L2.ixN xs.length j = some l from h1]; exact y1, ?_⟩
          exact h v y H2 z2 m2 q1 ((pv.ext ex2).snoc hH (by rw [← rl.length]; exact h1) y1) se2 stT (ex1.trans ex2)
        | false =>
          have hk1 : ∃ j : Int, k = .int j := by
            cases k with
            | int j => exact ⟨j, rfl⟩
            | _ => simp [stepD, getAt] at hx
          obtain ⟨j, rfl⟩ := hk1
          obtain ⟨xs, l, rfl, h1, h2⟩ := getAt1T hx
          obtain rfl := Rp.int_inv r2
          obtain ⟨v2, k0, kr, f1, f2, f3, f4, _⟩ := focus ks1 g2 (by rw [sh1]; exact pthT_invF ht) hs e3
          obtain rfl := PV.det ag f3 (pv.ext ex2)
          obtain ⟨a, vs, rfl, hb, rl⟩ := Rp.tup_inv f1
          obtain ⟨y, mr', y1, _, _⟩ := rl.get h2
          refine ⟨a, vs, j, y, rfl, rfl, hb, by show (L2.ixN vs.length j).bind _ = _; rw [← rl.length, show L2.ixN xs.length j = some l from h1]; exact y1, ?_⟩
          exact h v y H2 z2 m2 q1 ((pv.ext ex2).snocT hb (by rw [← rl.length]; exact h1) y1) se2 stT (ex1.trans ex2)
end En

set_option Elab.async false
set_option linter.all false
set_option autoImplicit false
set_option maxRecDepth 100000
set_option maxHeartbeats 1000000
namespace En
open PySem PySem.Spec PyProof.Rows L2 RZ
variable {G : Gx} {W : WX} {H H' H'' : Hp} {z z' z'' : Addr → Prop} {τ τ' τ0 t : Ty} {d d0 d1 : D} {v v0 : V} {ds : List D} {vs : List V} {m m' m1 m2 m0 ms me mv : Ow} {Γ Γ' Γ1 Γ2 Γb : TyEnv} {ρ ρ' : Env} {σ σ' : L2.St} {τs ts : List Ty} {τr : Ty} {i : Nat} {a : Addr}
theorem TyEnv.st_get : ∀ {Γ : TyEnv} {i : Nat} {τ : Ty}, TyEnv.st Γ = true → Γ[i]? = some (some τ) → τ.st = true
  | [], i, τ, _, h => by simp at h
  | o :: Γ, 0, τ, hs, h => by
    simp only [List.getElem?_cons_zero, Option.some.injEq] at h
    subst h
    simp only [TyEnv.st, List.all_cons, Bool.and_eq_true] at hs
    exact hs.1
  | o :: Γ, i + 1, τ, hs, h => by
    simp only [TyEnv.st, List.all_cons, Bool.and_eq_true] at hs
    exact TyEnv.st_get (Γ := Γ) (i := i) hs.2 (by simpa using h)
theorem TyEnv.st_none : ∀ {Γ : TyEnv} (i : Nat), TyEnv.st Γ = true → TyEnv.st (Γ.set i none) = true
  | [], i, _ => rfl
  | o :: Γ, 0, hs => by
    simp only [TyEnv.st, List.all_cons, Bool.and_eq_true] at hs
    exact hs.2
  | o :: Γ, i + 1, hs => by
    simp only [TyEnv.st, List.all_cons, Bool.and_eq_true] at hs
    simp only [TyEnv.st, List.set_cons_succ, List.all_cons, Bool.and_eq_true]
    exact ⟨hs.1, TyEnv.st_none i hs.2⟩
theorem set_back {α : Type} : ∀ {l : List α} {i : Nat} {x : α}, l[i]? = some x → l.set i x = l
  | [], _, _, h => by simp at h
  | y :: l, 0, x, h => by
    simp only [List.getElem?_cons_zero, Option.some.injEq] at h
    rw [h]
    rfl
  | y :: l, i + 1, x, h => by
    show y :: l.set i x = y :: l
    rw [set_back (by simpa using h)]
/-- the change itself -/
theorem mut_core {ks : List D} (ag : AgT G.K H) (se : SE G.F H z Γ ρ σ ms) (ok : Ok H z fun b => ms b + me b) (hi : Γ[i]? = some (some τ)) (hst : TyEnv.st Γ = true) (hg : getAt ks (ρ.getD i .none) = some d0) (ht : pthT (ks.map shK) τ = some τ0)
    (hv : σ[i]? = some (some v)) (pv : PV G.K H v ks v0) : ∃ (m0 mr : Ow), Rp G.F H z τ0 d0 v0 m0 ∧ (∀ b, ms b = m0 b + mr b) ∧ τ0.st = true ∧
    ∀ (p : Addr) (o : HO) (d1 : D) (m1 : Ow) (f : D → Option D), f d0 = some d1 → m0 p = 1 → Mut (some o) → Rp G.F (upd H p o) z τ0 d1 v0 m1 → (∀ b, m1 b ≤ m0 b + me b) →
      ∃ (d' : D) (m' : Ow), updAt f ks (ρ.getD i .none) = some d' ∧ SE G.F (upd H p o) z Γ (ρ.set i d') σ m' ∧ Stp H z (fun b => ms b + me b) (upd H p o) z m' := by
  obtain ⟨v', n1, n2, g1, g2, g3, g4⟩ := se.get hi
  rw [hv] at g1
  cases g1
  have hs : τ.st = true := TyEnv.st_get hst hi
  obtain ⟨w, m0, mr, f1, f2, f3, f4, f5⟩ := focus ks g2 ht hs hg
  obtain rfl := PV.det ag f3 pv
  refine ⟨m0, fun b => mr b + n2 b, f1, fun b => by have := g4 b; have := f2 b; (try simp only); omega, f4, fun p o d1 m1 f e hp mu r le => ?_⟩
  have hone : ∀ b, one p b ≤ m0 b := fun b => by
    unfold one
    split
    · subst_vars; omega
    · omega
  have okr : Ok H z fun b => one p b + (mr b + n2 b) := ok.drop fun b => by have := hone b; have := f2 b; have := g4 b; (try simp only); omega
  obtain ⟨d', u1, u2⟩ := f5 p o d1 m1 f (okr.drop fun b => by (try simp only); omega) e r
  have sw := g3.write (p := p) (o := o) (TyEnv.st_none i hst) (okr.drop fun b => by (try simp only); omega) mu
  have hl : i < Γ.length := by
    rcases Nat.lt_or_ge i Γ.length with h | h
    · exact h
    · rw [List.getElem?_eq_none h] at hi; cases hi
  obtain ⟨m2, p1, p2⟩ := sw.put i (by rw [List.length_set]; exact hl) u2
  rw [List.set_set, set_back hi, set_back hv] at p1
  refine ⟨d', _, u1, p1, (Stp.write ok ?_ mu).drop fun b => ?_⟩
  · have := (ok p).1
    have := f2 p
    have := g4 p
    (try simp only at *)
    omega
  · have := p2 b
    have := le b
    have := f2 b
    have := g4 b
    (try simp only at *)
    omega
/-- each of its type -/
theorem RA.coz : ∀ {τs ts : List Ty} {ds : List D} {vs : List V} {m : Ow}, RA G.F H z τs ds vs m → ((τs.zip ts).all fun p => En.sub p.1 p.2) = true → τs.length = ts.length → (∀ a, m a ≤ 1) →
    ∃ m' : Ow, (∀ b, m' b ≤ m b) ∧ ∀ z'' : Addr → Prop, (∀ a, z a → z'' a) → (∀ a, 1 ≤ m a → m' a = 0 → z'' a) → RA G.F H z'' ts ds vs m'
  | _, [], _, _, m, .nil q, _, _, _ => ⟨m, fun _ => Nat.le_refl _, fun _ _ _ => .nil q⟩
  | _, [], _, _, _, .cons _ _ _, _, l, _ => by cases l
  | _, _ :: _, _, _, _, .nil _, _, l, _ => by cases l
  | _, t :: ts, _, _, m, .cons a b c, e, l, h1 => by
    rw [List.zip_cons_cons, List.all_cons, Bool.and_eq_true] at e
    obtain ⟨ma, la, ka⟩ := sub_co _ _ e.1 a fun x => by have := c x; have := h1 x; omega
    obtain ⟨mb, lb, kb⟩ := RA.coz (ts := ts) b e.2 (by simpa using l) fun x => by have := c x; have := h1 x; omega
    refine ⟨fun x => ma x + mb x, fun x => by have := c x; have := la x; have := lb x; (try simp only); omega, fun z'' hz hm => .cons (ka z'' hz fun x p q => ?_) (kb z'' hz fun x p q => ?_) fun _ => rfl⟩
    · exact hm x (by have := c x; omega) (by have := c x; have := h1 x; have := la x; have := lb x; (try simp only); omega)
    · exact hm x (by have := c x; omega) (by have := c x; have := h1 x; have := la x; have := lb x; (try simp only); omega)
theorem RA.coz_step (h : RA G.F H z τs ds vs m) (e : ((τs.zip ts).all fun p => En.sub p.1 p.2) = true) (l : τs.length = ts.length) (ok : Ok H z m) : ∃ (z' : Addr → Prop) (m' : Ow), RA G.F H z' ts ds vs m' ∧ Stp H z m H z' m' := by
  obtain ⟨m', l', k⟩ := h.coz e l fun a => (ok a).1
  exact ⟨_, m', k (fun a => z a ∨ (1 ≤ m a ∧ m' a = 0)) (fun _ q => .inl q) fun a p q => .inr ⟨p, q⟩, relStp ok l'⟩
/-- a list's method that gives None -/
def MuS (G : Gx) (r : V → List V → Hp → VK → Prop) (ts : List Ty) (t : Ty) (g : List D → D → Option D) : Prop :=
  ∀ (H : Hp) (z : Addr → Prop) (m0 mv : Ow) (ds : List D) (vs : List V) (xs : List D) (a : Addr) (d1 : D), t.st = true → Rp G.F H z (.N .o t) (.list xs) (.ref a) m0 → RA G.F H z ts ds vs mv → Ok H z (fun b => m0 b + mv b) → g ds (.list xs) = some d1 →
    ∃ (o : HO) (m1 : Ow), Mut (some o) ∧ (∀ Q : VK, Q .non (upd H a o) → r (.ref a) vs H Q) ∧ Rp G.F (upd H a o) z (.N .o t) d1 (.ref a) m1 ∧ ∀ b, m1 b ≤ m0 b + mv b
theorem Rp.own_inv {xs : List D} (h : Rp G.F H z (.N .o t) (.list xs) v m) : ∃ (a : Addr) (vs : List V) (m1 : Ow), v = .ref a ∧ H a = some (.lst vs) ∧ RL G.F H z t xs vs m1 ∧ ∀ b, m b = one a b + m1 b := by
  obtain ⟨q, t', a, vs, s0, s1, e, rfl, hb, rl, hm⟩ := Rp.list_inv h
  cases e
  obtain ⟨hH, ho⟩ := Box.ownH hb
  exact ⟨a, vs, s1, rfl, hH, rl, fun b => by have := hm b; have := ho b; omega⟩
theorem muv_app (h : muv .app ds d = some d1) : ∃ y xs, ds = [y] ∧ d = .list xs ∧ xs.length < sizeLine ∧ d1 = .list (xs ++ [y]) := by
  unfold muv at h
  split at h <;> first | (cases ‹Mu.app = Mu.ext›) | (cases ‹Mu.app = Mu.ins›) | (cases ‹Mu.app = Mu.clr›) | skip
  · split at h
    · cases h; exact ⟨_, _, rfl, rfl, by assumption, rfl⟩
    · cases h
  · cases h
theorem muv_ext (h : muv .ext ds d = some d1) : ∃ ys xs, ds = [.list ys] ∧ d = .list xs ∧ xs.length + ys.length ≤ sizeLine ∧ d1 = .list (xs ++ ys) := by
  unfold muv at h
  split at h <;> first | (cases ‹Mu.ext = Mu.app›) | (cases ‹Mu.ext = Mu.ins›) | (cases ‹Mu.ext = Mu.clr›) | skip
  · split at h
    · cases h; exact ⟨_, _, rfl, rfl, by assumption, rfl⟩
    · cases h
  · cases h
theorem muv_ins (h : muv .ins ds d = some d1) : ∃ i y xs, ds = [.int i, y] ∧ d = .list xs ∧ (0 ≤ i ∧ i < 2 ^ 63 ∧ xs.length < sizeLine) ∧ d1 = .list (xs.take i.toNat ++ y :: xs.drop i.toNat) := by
  unfold muv at h
  split at h <;> first | (cases ‹Mu.ins = Mu.app›) | (cases ‹Mu.ins = Mu.ext›) | (cases ‹Mu.ins = Mu.clr›) | skip
  · split at h
    · cases h; exact ⟨_, _, _, rfl, rfl, by assumption, rfl⟩
    · cases h
  · cases h
theorem muv_clr (h : muv .clr ds d = some d1) : ds = [] ∧ (∃ xs, d = .list xs) ∧ d1 = .list [] := by
  unfold muv at h
  split at h <;> first | (cases ‹Mu.clr = Mu.app›) | (cases ‹Mu.clr = Mu.ext›) | (cases ‹Mu.clr = Mu.ins›) | skip
  · cases h; exact ⟨rfl, ⟨_, rfl⟩, rfl⟩
  · cases h
theorem mu_app : MuS G rAppend [t] t (muv .app) := by
  intro H z m0 mv ds vs xs a d1 hs h ra ok e
  obtain ⟨a', vl, n1, ea, hH, rl, hm⟩ := h.own_inv
  cases ea
  obtain ⟨y, xs', rfl, e3, hl, rfl⟩ := muv_app e
  cases e3
  obtain ⟨τ1, v1, mm, et, rfl, hy, hmv⟩ := RA.one1 ra
  cases et
  refine ⟨.lst (vl ++ [v1]), fun b => one a b + (n1 b + mm b), trivial, fun Q q => ⟨a, vl, v1, rfl, rfl, hH, by rw [← rl.length]; exact hl, q⟩, Rp.mkL ⟨upd_same, fun _ => rfl⟩ ?_ fun _ => rfl, fun b => by have := hm b; have := hmv b; (try simp only); omega⟩
  have okk : Ok H z fun b => one a b + (n1 b + mm b) := ok.drop fun b => by have := hm b; have := hmv b; (try simp only); omega
  exact RL.append (rl.write hs (okk.drop fun b => by (try simp only); omega)) (RL.write hy hs (okk.drop fun b => by (try simp only); omega)) fun _ => rfl
theorem mu_ext : MuS G rExtend [.N .o t] t (muv .ext) := by
  intro H z m0 mv ds vs xs a d1 hs h ra ok e
  obtain ⟨a', vl, n1, ea, hH, rl, hm⟩ := h.own_inv
  cases ea
  obtain ⟨y, xs', rfl, e3, hl, rfl⟩ := muv_ext e
  cases e3
  obtain ⟨τ1, v1, mm, et, rfl, hy, hmv⟩ := RA.one1 ra
  cases et
  obtain ⟨b', vl2, n2, rfl, hH2, rl2, hm2⟩ := hy.own_inv
  refine ⟨.lst (vl ++ vl2), fun b => one a b + (n1 b + n2 b), trivial, fun Q q => ⟨a, b', vl, vl2, rfl, rfl, hH, hH2, by rw [← rl.length, ← rl2.length]; exact hl, q⟩, Rp.mkL ⟨upd_same, fun _ => rfl⟩ ?_ fun _ => rfl, fun b => by have := hm b; have := hmv b; have := hm2 b; (try simp only); omega⟩
  have okk : Ok H z fun b => one a b + (n1 b + n2 b) := ok.drop fun b => by have := hm b; have := hmv b; have := hm2 b; (try simp only); omega
  exact RL.append (rl.write hs (okk.drop fun b => by (try simp only); omega)) (RL.write rl2 hs (okk.drop fun b => by (try simp only); omega)) fun _ => rfl
theorem mu_clr : MuS G rClear [] t (muv .clr) := by
  intro H z m0 mv ds vs xs a d1 hs h ra ok e
  obtain ⟨a', vl, n1, ea, hH, rl, hm⟩ := h.own_inv
  cases ea
  cases ra with
  | nil q =>
    cases e
    exact ⟨.lst [], one a, trivial, fun Q q => ⟨a, vl, rfl, rfl, hH, q⟩, Rp.mkL (m1 := fun _ => 0) ⟨upd_same, fun _ => rfl⟩ (.nil fun _ => rfl) fun _ => rfl, fun b => by have := hm b; omega⟩
def rIns : V → List V → Hp → VK → Prop := fun x vs H Q => ∃ (l : Addr) (xs : List V) (i : Int) (y : V), x = .ref l ∧ vs = [.int i, y] ∧ H l = some (.lst xs) ∧ xs.length < sizeLine ∧ 0 ≤ i ∧ i < 2 ^ 63 ∧ Q .non (upd H l (.lst (xs.take i.toNat ++ y :: xs.drop i.toNat)))
theorem RL.split : ∀ {ds : List D} {vs : List V} {m : Ow} (k : Nat), RL G.F H z τ ds vs m → ∃ (n1 n2 : Ow), RL G.F H z τ (ds.take k) (vs.take k) n1 ∧ RL G.F H z τ (ds.drop k) (vs.drop k) n2 ∧ ∀ b, m b = n1 b + n2 b
  | ds, vs, m, 0, h => ⟨fun _ => 0, m, by simpa using RL.nil fun _ => rfl, by simpa using h, fun b => by simp⟩
  | [], [], m, k + 1, h => ⟨fun _ => 0, m, by simpa using RL.nil fun _ => rfl, by simpa using h, fun b => by simp⟩
  | [], _ :: _, m, k + 1, h => by cases h
  | _ :: _, [], m, k + 1, h => by cases h
  | x :: ds, v :: vs, m, k + 1, h => by
    obtain ⟨m1, m2, h1, h2, h3⟩ := h.uncons
    obtain ⟨n1, n2, q1, q2, q3⟩ := RL.split k h2
    exact ⟨fun b => m1 b + n1 b, n2, RL.cons' h1 q1 fun _ => rfl, q2, fun b => by have := h3 b; have := q3 b; (try simp only); omega⟩
theorem mu_ins : MuS G rIns [.I, t] t (muv .ins) := by
  intro H z m0 mv ds vs xs a d1 hs h ra ok e
  obtain ⟨a', vl, n1, ea, hH, rl, hm⟩ := h.own_inv
  cases ea
  obtain ⟨i, y, xs', rfl, e3, hl, rfl⟩ := muv_ins e
  cases e3
  obtain ⟨τ1, τ2, v1, v2, m3, m4, et, rfl, hy1, hy2, hmv⟩ := ra.two
  cases et
  obtain rfl := Rp.int_inv hy1
  obtain ⟨k1, k2, s1, s2, s3⟩ := rl.split i.toNat
  refine ⟨.lst (vl.take i.toNat ++ v2 :: vl.drop i.toNat), fun b => one a b + (k1 b + (m4 b + k2 b)), trivial, fun Q q => ⟨a, vl, i, v2, rfl, rfl, hH, by rw [← rl.length]; exact hl.2.2, hl.1, hl.2.1, q⟩, Rp.mkL ⟨upd_same, fun _ => rfl⟩ ?_ fun _ => rfl, fun b => by have := hm b; have := hmv b; have := s3 b; (try simp only); omega⟩
  have okk : Ok H z fun b => one a b + (k1 b + (m4 b + k2 b)) := ok.drop fun b => by have := hm b; have := hmv b; have := s3 b; (try simp only); omega
  exact RL.append (s1.write hs (okk.drop fun b => by (try simp only); omega)) (RL.cons' (RL.write hy2 hs (okk.drop fun b => by (try simp only); omega)) (s2.write hs (okk.drop fun b => by (try simp only); omega)) fun _ => rfl) fun _ => rfl
theorem updAt_some : ∀ (ks : List D) {f : D → Option D} {d d0 d' : D}, getAt ks d = some d0 → updAt f ks d = some d' → ∃ d1, f d0 = some d1
  | [], f, d, d0, d', h, e => by
    cases h
    exact ⟨d', e⟩
  | k :: ks, f, d, d0, d', h, e => by
    cases k with
    | int i =>
      cases d with
      | list xs =>
        simp only [getAt, updAt] at h e
        cases e1 : ixN xs.length i with
        | none => rw [e1] at h; cases h
        | some j =>
          rw [e1, Option.bind_some] at h e
          cases e2 : xs[j]? with
          | none => rw [e2] at h; cases h
          | some x =>
            rw [e2, Option.bind_some] at h e
            cases e3 : updAt f ks x with
            | none => rw [e3] at e; cases e
            | some y => exact updAt_some ks h e3
      | _ => simp [getAt] at h
    | tuple l =>
      match l, h, e with
      | [.int i], h, e =>
        cases d with
        | tuple xs =>
          simp only [getAt, updAt] at h e
          cases e1 : ixN xs.length i with
          | none => rw [e1] at h; cases h
          | some j =>
            rw [e1, Option.bind_some] at h e
            cases e2 : xs[j]? with
            | none => rw [e2] at h; cases h
            | some x =>
              rw [e2, Option.bind_some] at h e
              cases e3 : updAt f ks x with
              | none => rw [e3] at e; cases e
              | some y => exact updAt_some ks h e3
        | _ => simp [getAt] at h
      | [], h, e => simp [getAt] at h
      | .none :: _, h, e => simp [getAt] at h
      | .bool _ :: _, h, e => simp [getAt] at h
      | .str _ :: _, h, e => simp [getAt] at h
      | .tuple _ :: _, h, e => simp [getAt] at h
      | .list _ :: _, h, e => simp [getAt] at h
      | .dict _ :: _, h, e => simp [getAt] at h
      | .int _ :: _ :: _, h, e => simp [getAt] at h
    | _ => simp [getAt] at h
theorem isKd_list {d : D} (h : isKd .list d = true) : ∃ xs, d = .list xs := by
  cases d <;> simp [isKd] at h
  exact ⟨_, rfl⟩
theorem EvS.mu {tp : TE} {ta : TA} {n : List Bool} {fp : Env → Res (List D)} {fa : Env → Res (List D)} {g : List D → D → Option D} {r : V → List V → Hp → VK → Prop} (hp : PthE G tp Γ i n fp) (ha : EvA G W ta Γ Γ1 τs fa) (hi : Γ[i]? = some (some τ)) (hsi : τ.st = true) (hi1 : Γ1[i]? = some (some τ))
    (hst : TyEnv.st Γ1 = true) (ht : pthT n τ = some (.N .o t)) (hz : ((τs.zip ts).all fun p => En.sub p.1 p.2) = true) (hl : τs.length = ts.length) (mu : MuS G r ts t g) :
    EvS G W true (tDrop (tBM G.K "list" (gAgM G.K r) (tAg G.K tp) ta)) Γ Γ1 Γb τr fun ρ => (fp ρ).noex.fl fun ks => if ks.map shK = n then (Res.of (getAt ks (ρ.getD i .none))).fl fun d0 => if isKd .list d0 then (fa ρ).fl fun ds => (Res.of (updAt (g ds) ks (ρ.getD i .none))).fl fun d => .nx (ρ.set i d) else .bad else .bad := by
  intro ρ σ H z m se ok Dn h
  dsimp only at h
  cases e1 : fp ρ with
  | bad => rw [e1] at h; exact h.elim
  | ex _ => rw [e1] at h; exact h.elim
  | ok ks =>
  rw [e1, Res.noex_ok, Res.fl_ok] at h
  by_cases hn : ks.map shK = n
  case neg => rw [if_neg hn] at h; exact h.elim
  rw [if_pos hn] at h
  cases e2 : getAt ks (ρ.getD i .none) with
  | none => rw [e2] at h; exact h.elim
  | some d0 =>
  rw [e2, Res.of_some, Res.fl_ok] at h
  by_cases hk : isKd .list d0 = true
  · rw [if_pos hk] at h
    obtain ⟨xs, rfl⟩ := isKd_list hk
    have hq := hp ρ σ H z m se ok ks e1 hn (by rw [e2]; rfl)
    refine hq _ fun v v0 H1 z1 m1 hv pv se1 st1 ex1 ag1 => ?_
    have P := post_fl h
    obtain ⟨v', k1, k2, g1, g2, _, _⟩ := se1.get hi
    rw [hv] at g1
    cases g1
    obtain ⟨v2, f0, fr, f1, f2, f3, f4, _⟩ := focus ks g2 (by rw [hn]; exact ht) hsi e2
    obtain rfl := PV.det ag1 f3 pv
    obtain ⟨a, vl, q1, rfl, q2, q3, q4⟩ := f1.own_inv
    refine ⟨.inl ⟨rfl, vl, .inl (.inl q2)⟩, ?_⟩
    refine ha ρ σ H1 z1 m1 se1 st1.ok _ (Res.post_mono P (fun ds h vs H2 z2 m2 mw se2 r2 st2 ex2 => ?_) fun _ h => h.ext ex1)
    cases e3 : updAt (g ds) ks (ρ.getD i .none) with
    | none => rw [e3] at h; exact h.elim
    | some d' =>
    rw [e3, Res.of_some, Res.fl_ok] at h
    intro ag2
    have st12 := st1.trans st2
    -- the arguments as they are wanted
    obtain ⟨z3, mw', r3, st3⟩ := r2.coz_step hz hl (st2.ok.drop fun b => Nat.le_add_left _ _)
    have st3' := st3.frame (r := m2) (st2.ok.eqm fun b => by omega)
    have ok3 : Ok H2 z3 fun b => m2 b + mw' b := st3'.ok.eqm fun b => by omega
    have se3 : SE G.F H2 z3 Γ1 ρ σ m2 := se2.ext (fun _ _ q => q) st3.zz
    obtain ⟨m0, mr, c1, c2, c3, c4⟩ := mut_core (me := mw') ag2 se3 ok3 hi1 hst e2 (by rw [hn]; exact ht) hv (pv.ext ex2)
    obtain ⟨d1, e4⟩ := updAt_some ks e2 e3
    obtain ⟨o, n1, b1, b2, b3, b4⟩ := mu H2 z3 m0 mw' ds vs xs a d1 c3 c1 r3 (ok3.drop fun b => by have := c2 b; (try simp only); omega) e4
    have hm0 : m0 a = 1 := by
      obtain ⟨a', _, s1, ea, _, _, s4⟩ := c1.own_inv
      cases ea
      have := s4 a
      rw [one_self] at this
      have := (ok3 a).1
      have := c2 a
      (try simp only at *)
      omega
    obtain ⟨d'', m', u1, u2, u3⟩ := c4 a o d1 n1 (g ds) e4 hm0 b1 b3 b4
    rw [e3] at u1
    cases u1
    refine b2 _ ?_
    refine h σ (upd H2 a o) z3 m' u2 ?_
    refine (st12.trans ?_).trans u3
    exact st3'.eqm (fun b => by omega) fun b => by omega
  · rw [if_neg hk] at h
    exact h.elim
end En

set_option Elab.async false
set_option linter.all false
set_option autoImplicit false
set_option maxRecDepth 100000
set_option maxHeartbeats 1000000
namespace En
open PySem PySem.Spec PyProof.Rows L2 RZ
variable {G : Gx} {W : WX} {H H' H'' : Hp} {z z' z'' : Addr → Prop} {τ τ' τ0 t τe τk : Ty} {d d0 d1 y : D} {v v0 : V} {ds xs : List D} {vs vl : List V} {m m' m1 m2 m0 ms me mv my n1 : Ow} {Γ Γ' Γ1 Γ2 Γb : TyEnv} {ρ ρ' : Env} {σ σ' : L2.St} {τs ts : List Ty} {τr : Ty} {i j : Nat} {a : Addr}
theorem RL.setv : ∀ {ds : List D} {vs : List V} {m : Ow} {j : Nat}, RL G.F H z τ ds vs m → j < ds.length → Rp G.F H z τ d v my → ∃ m', RL G.F H z τ (ds.set j d) (vs.set j v) m' ∧ ∀ b, m' b ≤ m b + my b
  | [], vs, m, j, h, hj, r => by cases hj
  | x :: ds, [], m, j, h, hj, r => by cases h
  | x :: ds, w :: vs, m, 0, h, hj, r => by
    obtain ⟨m1, m2, h1, h2, h3⟩ := h.uncons
    exact ⟨fun b => my b + m2 b, RL.cons' r h2 fun _ => rfl, fun b => by have := h3 b; (try simp only); omega⟩
  | x :: ds, w :: vs, m, j + 1, h, hj, r => by
    obtain ⟨m1, m2, h1, h2, h3⟩ := h.uncons
    obtain ⟨m', q1, q2⟩ := RL.setv (j := j) h2 (by simpa using hj) r
    exact ⟨fun b => m1 b + m' b, RL.cons' h1 q1 fun _ => rfl, fun b => by have := h3 b; have := q2 b; (try simp only); omega⟩
theorem ixN_lt {n : Nat} {i : Int} (h : ixN n i = some j) : j < n := (L2.ixN_seq h).2.1
theorem EvS.sub {te tp ti : TE} {n : List Bool} {fe : Env → Res D} {fp : Env → Res (List D)} {fi : Env → Res D} (he : EvE G W te Γ Γ1 τe fe) (hp : PthE G tp Γ1 i n fp) (hx : EvE G W ti Γ1 Γ1 τk fi) (hi : Γ1[i]? = some (some τ))
    (hst : TyEnv.st Γ1 = true) (ht : pthT n τ = some (.N .o t)) (hs : En.sub τe t = true) :
    EvS G W true (tAsg te (gSub tp (tAg G.K ti) rSetL)) Γ Γ1 Γb τr fun ρ => (fe ρ).fl fun y => (fp ρ).noex.fl fun ks => if ks.map shK = n then (Res.of (getAt ks (ρ.getD i .none))).fl fun d0 => if isKd .list d0 then (fi ρ).fl fun k => (Res.of (updAt (subv k y) ks (ρ.getD i .none))).fl fun d => .nx (ρ.set i d) else .bad else .bad := by
  intro ρ σ H z m se ok Dn h
  dsimp only at h
  refine he ρ σ H z m se ok _ (Res.post_mono (post_fl h) (fun y h v H1 z1 m1 mv se1 r1 st1 ex1 => ?_) fun _ h => h)
  cases e1 : fp ρ with
  | bad => rw [e1] at h; exact h.elim
  | ex _ => rw [e1] at h; exact h.elim
  | ok ks =>
  rw [e1, Res.noex_ok, Res.fl_ok] at h
  by_cases hn : ks.map shK = n
  case neg => rw [if_neg hn] at h; exact h.elim
  rw [if_pos hn] at h
  cases e2 : getAt ks (ρ.getD i .none) with
  | none => rw [e2] at h; exact h.elim
  | some d0 =>
  rw [e2, Res.of_some, Res.fl_ok] at h
  by_cases hk : isKd .list d0 = true
  · rw [if_pos hk] at h
    obtain ⟨xs, rfl⟩ := isKd_list hk
    have hq := hp ρ σ H1 z1 m1 se1 (st1.ok.drop fun b => Nat.le_add_right _ _) ks e1 hn (by rw [e2]; rfl)
    refine hq _ fun w v0 H2 z2 m2 hv pv se2 st2 ex2 => ?_
    have okf := (st2.frame (r := mv) st1.ok)
    refine hx ρ σ H2 z2 m2 se2 st2.ok _ (Res.post_mono (post_fl h) (fun k h vk H3 z3 m3 mk se3 rk st3 ex3 ag => ?_) fun _ h => h.ext (ex1.trans ex2))
    cases e3 : updAt (subv k y) ks (ρ.getD i .none) with
    | none => rw [e3] at h; exact h.elim
    | some d' =>
    rw [e3, Res.of_some, Res.fl_ok] at h
    obtain ⟨d1, e4⟩ := updAt_some ks e2 e3
    -- the index
    simp only [subv] at e4
    split at e4
    · rename_i jx
      obtain rfl := Rp.int_inv rk
      cases e5 : ixN xs.length jx with
      | none => rw [e5] at e4; cases e4
      | some j =>
      rw [e5, Option.map_some] at e4
      have e4' := e4
      cases e4
      have st3d : Stp H2 z2 m2 H3 z3 m3 := st3.drop fun b => Nat.le_add_right _ _
      have okf3 := st3d.frame (r := mv) okf.ok
      have rv3 : Rp G.F H3 z3 τe y v mv := r1.ext (ex2.trans ex3) fun b q => st3.zz b (st2.zz b q)
      -- the value as it is wanted
      obtain ⟨z4, mv', r4, st4⟩ := sub_step hs rv3 (okf3.ok.drop fun b => Nat.le_add_left _ _)
      have st4' := st4.frame (r := m3) (okf3.ok.eqm fun b => by omega)
      have ok4 : Ok H3 z4 fun b => m3 b + mv' b := st4'.ok.eqm fun b => by omega
      have se4 : SE G.F H3 z4 Γ1 ρ σ m3 := se3.ext (fun _ _ q => q) st4.zz
      obtain ⟨m0, mr, c1, c2, c3, c4⟩ := mut_core (me := mv') ag se4 ok4 hi hst e2 (by rw [hn]; exact ht) hv (pv.ext ex3)
      obtain ⟨a, vl, s1, rfl, s2, s3, s4⟩ := c1.own_inv
      have hs' : t.st = true := (Ty.st_inv c3).2
      have okk : Ok H3 z4 fun b => En.one a b + (s1 b + mv' b) := ok4.drop fun b => by have := c2 b; have := s4 b; (try simp only); omega
      obtain ⟨s5, q5, q6⟩ := RL.setv (s3.write (p := a) (o := .lst (vl.set j v)) hs' (okk.drop fun b => by (try simp only); omega)) (ixN_lt e5) (RL.write r4 (p := a) (o := .lst (vl.set j v)) hs' (okk.drop fun b => by (try simp only); omega))
      have hm0 : m0 a = 1 := by
        have := s4 a
        rw [one_self] at this
        have := (ok4 a).1
        have := c2 a
        (try simp only at *)
        omega
      obtain ⟨d'', m', u1, u2, u3⟩ := c4 a (.lst (vl.set j v)) (.list (xs.set j y)) (fun b => En.one a b + s5 b) (subv (.int jx) y) (by simp only [subv, e5, Option.map_some]) hm0 trivial (Rp.mkL (q := .o) ⟨upd_same, fun _ => rfl⟩ q5 fun _ => rfl) fun b => by have := s4 b; have := q6 b; (try simp only); omega
      rw [e3] at u1
      cases u1
      refine ⟨a, vl, jx, j, rfl, rfl, s2, by rw [← s3.length]; exact e5, ?_⟩
      refine h σ _ z4 m' u2 ?_
      refine (((st1.trans okf).trans okf3).trans ?_).trans u3
      exact st4'.eqm (fun b => by omega) fun b => by omega
    · cases e4
  · rw [if_neg hk] at h
    exact h.elim
/-- taking an element away -/
theorem SE.put2 (h : SE G.F H z Γ ρ σ m) (hj : j < Γ.length) (r : Rp G.F H z τ d v my) : ∃ m2 : Ow, SE G.F H z (Γ.set j (some τ)) (ρ.set j d) (σ.set j (some v)) (fun b => my b + m2 b) ∧ ∀ b, m2 b ≤ m b := h.put j hj r
end En

set_option Elab.async false
set_option linter.all false
set_option autoImplicit false
set_option maxRecDepth 100000
set_option maxHeartbeats 1000000
namespace En
open PySem PySem.Spec PyProof.Rows L2 RZ
variable {G : Gx} {W : WX} {H H' H'' : Hp} {z z' z'' : Addr → Prop} {τ τ' τ0 t τe τk : Ty} {d d0 d1 y k : D} {v v0 vk vy : V} {ds xs ks : List D} {vs vl : List V} {m m' m1 m2 m0 ms me mv my mk n1 : Ow} {Γ Γ' Γ1 Γ2 Γb : TyEnv} {ρ ρ' : Env} {σ σ' : L2.St} {τs ts : List Ty} {τr : Ty} {i j : Nat} {a : Addr}
/-! ## changes of dicts -/
theorem Box.own_is {K : Frag} {o : HO} {w : Prop} (h : Box K H z a o w .o m) : H a = some o ∧ ∀ b, m b = one a b := h
theorem KeysT.put {xs : List NE} {kk : NestedKey} {b : Addr} (h : KeysT ks xs) (e : nkOf k = some kk) (n : nkT kk = true) (hn : kk ∉ xs.map (·.1)) : KeysT (ks ++ [k]) (xs ++ [(kk, b, v)]) := by
  refine ⟨by simp [h.1, e], fun x hx => ?_, ?_⟩
  · rcases List.mem_append.mp hx with hx | hx
    · exact h.2.1 x hx
    · rw [List.mem_singleton] at hx
      subst hx
      exact n
  · simp only [List.map_append, List.map_cons, List.map_nil]
    exact List.nodup_append.mpr ⟨h.2.2, by simp, fun x hx y hy q => hn (by rw [List.mem_singleton] at hy; rw [← hy, ← q]; exact hx)⟩
theorem RL.one_ (h : Rp G.F H z t d v m) : RL G.F H z t [d] [v] m := h
theorem set_map {α β : Type} (f : α → β) {l : List α} {j : Nat} {x y : α} (h : l[j]? = some x) (e : f y = f x) : (l.set j y).map f = l.map f := by
  rw [List.map_set, e]
  exact set_back (by rw [List.getElem?_map, h]; rfl)
/-- d.setdefault(y, z): of a dict that may be written -/
def rSetd (K : Frag) (w : World) : V → List V → Hp → VK → Prop := fun x vs H Q => ∃ a y z, x = .ref a ∧ vs = [y, z] ∧
  ((∃ kvs kk, H a = some (.dK kvs) ∧ y = kV kk ∧ kvs.length < sizeLine ∧ (∀ v, valV kvs kk = some v → Q v H) ∧ (valV kvs kk = none → Q z (upd H a (.dK (putK kvs kk z))))) ∨
   ∃ xs kk b, NGet K w H a xs ∧ y = .ref b ∧ NKey K H y kk ∧ Mut (H a) ∧ xs.length < sizeLine ∧ (∀ v, valN xs kk = some v → Q v H) ∧ (valN xs kk = none → Q z (upd H a (dctO w a (putN xs kk b z)))))
theorem dput_step {kvs : List (D × D)} (hs : t.st = true) (h : Rp G.F H z (.N .o t) (.dict kvs) v m0) (hk : Rp G.F H z τk k vk mk) (hy : Rp G.F H z t y vy my) (ok : Ok H z fun b => m0 b + my b) (kok : kyOk kvs k = true) (hl : kvs.length < sizeLine) :
    ∃ (a : Addr) (o : HO) (m1 : Ow), v = .ref a ∧ m0 a = 1 ∧ Mut (some o) ∧ DPN G.K G.w H a vk vy (upd H a o) ∧ (dlook kvs k = none → ∀ Q : VK, Q vy (upd H a o) → rSetd G.K G.w (.ref a) [vk, vy] H Q) ∧ Rp G.F (upd H a o) z (.N .o t) (.dict (dput kvs k y)) (.ref a) m1 ∧ ∀ b, m1 b ≤ m0 b + my b := by
  obtain ⟨q, t', a, e0, rfl, ks, ds, n0, n1, rfl, hm, hh⟩ := h.dict_two
  cases e0
  have okk : ∀ {n : Ow}, (∀ b, n b ≤ n1 b + my b) → (∀ b, n0 b = one a b) → Ok H z fun b => one a b + n b := fun {n} hn h0 => ok.drop fun b => by have := hm b; have := hn b; have := h0 b; (try simp only); omega
  rcases hh with ⟨hk', nd, rfl, hle, hb, rl⟩ | ⟨xs, hne, hkt, hle, hb, rl⟩
  · obtain ⟨hH, h0⟩ := Box.own_is hb
    have ha1 : m0 a = 1 := by
      have h1 := hm a
      have h2 := h0 a
      rw [one_self] at h2
      have h3 := (ok a).1
      (try simp only at h3)
      omega
    have len : hk'.length < sizeLine := by simpa [hle] using hl
    rcases kyOk_inv kok with ⟨k1, _⟩ | ⟨k1, k2⟩
    · obtain ⟨kk, rfl⟩ := keyOk_inv k1
      have ev : vk = kV kk := by
        cases kk with
        | inl i => exact Rp.int_inv hk
        | inr i => exact Rp.str_inv hk
      subst ev
      rcases put_rel (y := y) (hk'.map fun p => kd p.1) ds (hk'.map (·.1)) (by simp [hle]) (keys_dk kk) with ⟨h3, h4, _⟩ | ⟨j, h3, h4, h5, h6, h7⟩
      · have nv : valV hk' kk = none := by unfold valV; rw [find_no h3]; rfl
        have ep : putK hk' kk vy = hk' ++ [(kk, vy)] := putK_new vy nv
        refine ⟨a, .dK (putK hk' kk vy), fun b => one a b + (n1 b + my b), rfl, ha1, trivial, .inl (DPut.k hH len), fun _ Q q => ⟨a, _, _, rfl, rfl, .inl ⟨hk', kk, hH, rfl, len, fun v' e => (by rw [nv] at e; cases e), fun _ => q⟩⟩, ?_, fun b => by have := hm b; have := h0 b; (try simp only); omega⟩
        have o2 := okk (n := fun b => n1 b + my b) (fun _ => Nat.le_refl _) h0
        rw [h4, show (hk'.map (fun p => kd p.1) ++ [kd kk]) = (putK hk' kk vy).map (fun p => kd p.1) by rw [ep]; simp]
        refine .cons (.dk (m := one a) ?_ ?_ ⟨upd_same, fun _ => rfl⟩) (m1 := fun b => n1 b + my b) ?_ (.nil (m := fun _ => 0) fun _ => rfl) fun _ => rfl
        · rw [ep]
          simp only [List.map_append, List.map_cons, List.map_nil]
          exact List.nodup_append.mpr ⟨nd, by simp, fun x hx y hy e => by simp at hy; subst hy; subst e; exact h3 hx⟩
        · rw [ep]; simp [hle]
        · rw [ep, List.map_append]
          exact RL.append (rl.write hs (o2.drop fun b => by (try simp only); omega)) (RL.write hy hs (o2.drop fun b => by (try simp only); omega)) fun _ => rfl
      · have hj : j < hk'.length := by rw [← hle]; exact h3
        have ej : hk'[j]? = some hk'[j] := List.getElem?_eq_getElem hj
        have ek : (hk'[j]).1 = kk := by rw [List.getElem?_map, ej] at h4; exact Option.some.inj h4
        have ep : putK hk' kk vy = hk'.set j (hk'[j].1, vy) := by
          unfold putK
          have : (hk'.any fun kv => decide (kv.1 = kk)) = true := List.any_eq_true.mpr ⟨hk'[j], List.getElem_mem hj, by simpa using ek⟩
          rw [if_pos this]
          exact map_set (fun x => (x.1, vy)) nd ej ek
        have o2 := okk (n := fun b => n1 b + my b) (fun _ => Nat.le_refl _) h0
        obtain ⟨s5, q5, q6⟩ := RL.setv (j := j) (rl.write (p := a) (o := .dK (putK hk' kk vy)) hs (o2.drop fun b => by (try simp only); omega)) h3 (RL.write hy (p := a) (o := .dK (putK hk' kk vy)) hs (o2.drop fun b => by (try simp only); omega))
        refine ⟨a, .dK (putK hk' kk vy), fun b => one a b + s5 b, rfl, ha1, trivial, .inl (DPut.k hH len), fun e => (by rw [h7, List.getElem?_eq_getElem h3] at e; cases e), ?_, fun b => by have := hm b; have := h0 b; have := q6 b; (try simp only); omega⟩
        rw [h6, show hk'.map (fun p => kd p.1) = (putK hk' kk vy).map (fun p => kd p.1) by rw [ep]; exact (set_map (y := (hk'[j].1, vy)) _ ej rfl).symm]
        refine .cons (.dk (m := one a) ?_ ?_ ⟨upd_same, fun _ => rfl⟩) (m1 := s5) ?_ (.nil (m := fun _ => 0) fun _ => rfl) fun _ => rfl
        · rw [ep, set_map (y := (hk'[j].1, vy)) (·.1) ej rfl]; exact nd
        · rw [ep]; simp [hle]
        · rw [ep] at q5 ⊢
          rw [List.map_set]
          exact q5
    · have hk0 : hk' = [] := by
        cases hk' with
        | nil => rfl
        | cons p hk' =>
          exfalso
          cases ds with
          | nil => cases hle
          | cons d ds =>
            have := k2 (kd p.1, d) (by simp)
            rw [keyT_kd] at this
            cases this
      subst hk0
      have hd0 : ds = [] := List.length_eq_zero_iff.mp hle
      subst hd0
      obtain ⟨kk, e1, e2⟩ := keyT_inv k1
      obtain ⟨b0, d0, rfl, q1, q2, q3⟩ := hk.nkey e1 e2
      have o2 := okk (n := my) (fun b => by omega) h0
      refine ⟨a, dctO G.w a (putN [] kk b0 vy), fun b => one a b + my b, rfl, ha1, trivial, .inr ⟨[], kk, b0, ⟨.inr ⟨rfl, .inl hH⟩, fun x hx => by cases hx⟩, rfl, ⟨b0, d0, rfl, q1, q2, q3⟩, by rw [hH]; trivial, by simp [sizeLine_eq], rfl⟩, fun _ Q q => ⟨a, _, _, rfl, rfl, .inr ⟨[], kk, b0, ⟨.inr ⟨rfl, .inl hH⟩, fun x hx => by cases hx⟩, rfl, ⟨b0, d0, rfl, q1, q2, q3⟩, by rw [hH]; trivial, by simp [sizeLine_eq], fun v' e => (by cases e), fun _ => q⟩⟩, ?_, fun b => by have := hm b; have := h0 b; (try simp only); omega⟩
      have ep : putN [] kk b0 vy = [(kk, b0, vy)] := rfl
      have hkk := (hk.imm (nk_imm k e1).1 z).ofI t z
      rw [show dput (([] : List (Key × V)).map (fun p => kd p.1) |>.zip ([] : List D)) k y = [k].zip [y] from rfl]
      refine .cons (.dt (m := one a) (xs := putN [] kk b0 vy) (ks := [k]) (ds := [y]) (by rw [ep]; simp) ⟨by rw [ep]; simp [e1], fun x hx => by rw [ep, List.mem_singleton] at hx; subst hx; exact e2, by rw [ep]; simp⟩ (by rw [ep]; rfl) ⟨upd_same, fun _ => rfl⟩) (m1 := my) ?_ (.nil (m := fun _ => 0) fun _ => rfl) fun _ => rfl
      rw [ep]
      show RL G.F _ z t ([k] ++ [y]) ([.ref b0] ++ [vy]) my
      exact RL.append (m1 := fun _ => 0) (m2 := my) (RL.write hkk hs (o2.drop fun b => by (try simp only); omega)) (RL.write hy hs (o2.drop fun b => by (try simp only); omega)) fun b => by (try simp only); omega
  · obtain ⟨hH, h0⟩ := Box.own_is hb
    have ha1 : m0 a = 1 := by
      have h1 := hm a
      have h2 := h0 a
      rw [one_self] at h2
      have h3 := (ok a).1
      (try simp only at h3)
      omega
    have hkl := hkt.len
    have len : xs.length < sizeLine := by
      have : (ks.zip ds).length = xs.length := by simp [hkl, hle]
      omega
    obtain ⟨p1, p2, r1, r2, r3⟩ := rl.parts (by rw [hkl, List.length_map])
    rcases kyOk_inv kok with ⟨_, k2⟩ | ⟨k1, k2⟩
    · exact (keysT_keyT hkt hne hle k2).elim
    · obtain ⟨kk, e1, e2⟩ := keyT_inv k1
      obtain ⟨b0, d0, rfl, q1, q2, q3⟩ := hk.nkey e1 e2
      have ng : NGet G.K G.w H a xs := ⟨.inl (.inl hH), nkeys_of hkt r1⟩
      have hkk := (hk.imm (nk_imm k e1).1 z).ofI t z
      have muA : Mut (H a) := by rw [hH]; trivial
      have nd := hkt.2.2
      rcases put_rel (y := y) ks ds (xs.map (·.1)) (by rw [hkl, hle]) (keys_dt e1 hkt.1) with ⟨h3, h4, _⟩ | ⟨j, h3, h4, h5, h6, h7⟩
      · have ev : valN xs kk = none := by unfold valN; rw [find_no h3]; rfl
        have ep : putN xs kk b0 vy = xs ++ [(kk, b0, vy)] := by unfold putN; rw [ev]; rfl
        have o2 := okk (n := fun b => p1 b + (p2 b + my b)) (fun b => by have := r3 b; (try simp only); omega) h0
        refine ⟨a, dctO G.w a (putN xs kk b0 vy), fun b => one a b + (p1 b + (p2 b + my b)), rfl, ha1, trivial, .inr ⟨xs, kk, b0, ng, rfl, ⟨b0, d0, rfl, q1, q2, q3⟩, muA, len, rfl⟩, fun _ Q q => ⟨a, _, _, rfl, rfl, .inr ⟨xs, kk, b0, ng, rfl, ⟨b0, d0, rfl, q1, q2, q3⟩, muA, len, fun v' e => (by rw [ev] at e; cases e), fun _ => q⟩⟩, ?_, fun b => by have := hm b; have := h0 b; have := r3 b; (try simp only); omega⟩
        rw [h4]
        refine .cons (.dt (m := one a) (xs := putN xs kk b0 vy) (by rw [ep]; simp) (by rw [ep]; exact hkt.put e1 e2 h3) (by rw [ep]; simp [hle]) ⟨upd_same, fun _ => rfl⟩) (m1 := fun b => p1 b + (p2 b + my b)) ?_ (.nil (m := fun _ => 0) fun _ => rfl) fun _ => rfl
        rw [ep, List.map_append, List.map_append]
        refine RL.append (m1 := p1) (m2 := fun b => p2 b + my b) ?_ ?_ fun _ => rfl
        · exact RL.append (m1 := p1) (m2 := fun _ => 0) (r1.write hs (o2.drop fun b => by (try simp only); omega)) (RL.write hkk hs (o2.drop fun b => by (try simp only); omega)) fun b => by (try simp only); omega
        · exact RL.append (r2.write hs (o2.drop fun b => by (try simp only); omega)) (RL.write hy hs (o2.drop fun b => by (try simp only); omega)) fun _ => rfl
      · have hj : j < xs.length := by rw [← hle]; exact h3
        have ej : xs[j]? = some xs[j] := List.getElem?_eq_getElem hj
        have ek : (xs[j]).1 = kk := by rw [List.getElem?_map, ej] at h4; exact Option.some.inj h4
        have ev : (valN xs kk).isSome = true := by unfold valN; rw [find_at (fun p => p.2.2) ej h4 h5]; rfl
        have ep : putN xs kk b0 vy = xs.set j (xs[j].1, xs[j].2.1, vy) := by
          unfold putN
          rw [if_pos ev]
          exact map_set (fun x => (x.1, x.2.1, vy)) nd ej ek
        have o2 := okk (n := fun b => p1 b + (p2 b + my b)) (fun b => by have := r3 b; (try simp only); omega) h0
        obtain ⟨s5, q5, q6⟩ := RL.setv (j := j) (r2.write (p := a) (o := dctO G.w a (putN xs kk b0 vy)) hs (o2.drop fun b => by (try simp only); omega)) h3 (RL.write hy (p := a) (o := dctO G.w a (putN xs kk b0 vy)) hs (o2.drop fun b => by (try simp only); omega))
        have q7 := r1.write (p := a) (o := dctO G.w a (putN xs kk b0 vy)) hs (o2.drop fun b => by (try simp only); omega)
        refine ⟨a, dctO G.w a (putN xs kk b0 vy), fun b => one a b + (p1 b + s5 b), rfl, ha1, trivial, .inr ⟨xs, kk, b0, ng, rfl, ⟨b0, d0, rfl, q1, q2, q3⟩, muA, len, rfl⟩, fun e => (by rw [h7, List.getElem?_eq_getElem h3] at e; cases e), ?_, fun b => by have := hm b; have := h0 b; have := r3 b; have := q6 b; (try simp only); omega⟩
        rw [h6]
        refine .cons (.dt (m := one a) (xs := putN xs kk b0 vy) ?_ ?_ ?_ ⟨upd_same, fun _ => rfl⟩) (m1 := fun b => p1 b + s5 b) ?_ (.nil (m := fun _ => 0) fun _ => rfl) fun _ => rfl
        · rw [ep]
          intro e
          have := congrArg List.length e
          simp only [List.length_set, List.length_nil] at this
          omega
        · rw [ep]
          refine ⟨by rw [hkt.1]; exact (set_map (y := (xs[j].1, xs[j].2.1, vy)) (fun x => some x.1) ej rfl).symm, fun x hx => ?_, by rw [set_map (y := (xs[j].1, xs[j].2.1, vy)) (·.1) ej rfl]; exact nd⟩
          rcases List.mem_or_eq_of_mem_set hx with hx | hx
          · exact hkt.2.1 x hx
          · have := hkt.2.1 _ (List.getElem_mem hj)
            rw [hx]
            exact this
        · rw [ep]; simp [hle]
        · rw [ep] at q5 q7 ⊢
          rw [set_map (y := (xs[j].1, xs[j].2.1, vy)) (fun x => V.ref x.2.1) ej rfl, List.map_set]
          exact RL.append q7 q5 fun _ => rfl
theorem isKd_dict {d : D} (h : isKd .dict d = true) : ∃ xs, d = .dict xs := by
  cases d <;> simp [isKd] at h
  exact ⟨_, rfl⟩
theorem EvS.dsub {te tp ti : TE} {n : List Bool} {fe : Env → Res D} {fp : Env → Res (List D)} {fi : Env → Res D} (he : EvE G W te Γ Γ1 τe fe) (hp : PthE G tp Γ1 i n fp) (hx : EvE G W ti Γ1 Γ1 τk fi) (hi : Γ1[i]? = some (some τ))
    (hst : TyEnv.st Γ1 = true) (ht : pthT n τ = some (.N .o t)) (hs : En.sub τe t = true) :
    EvS G W true (sDPutN G.K G.w tp (tAg G.K ti) te) Γ Γ1 Γb τr fun ρ => (fe ρ).fl fun y => (fp ρ).noex.fl fun ks => if ks.map shK = n then (Res.of (getAt ks (ρ.getD i .none))).fl fun d0 => if isKd .dict d0 then (fi ρ).fl fun k => (Res.of (updAt (subv k y) ks (ρ.getD i .none))).fl fun d => .nx (ρ.set i d) else .bad else .bad := by
  intro ρ σ H z m se ok Dn h
  dsimp only at h
  refine he ρ σ H z m se ok _ (Res.post_mono (post_fl h) (fun y h v H1 z1 m1 mv se1 r1 st1 ex1 => ?_) fun _ h => h)
  cases e1 : fp ρ with
  | bad => rw [e1] at h; exact h.elim
  | ex _ => rw [e1] at h; exact h.elim
  | ok ks =>
  rw [e1, Res.noex_ok, Res.fl_ok] at h
  by_cases hn : ks.map shK = n
  case neg => rw [if_neg hn] at h; exact h.elim
  rw [if_pos hn] at h
  cases e2 : getAt ks (ρ.getD i .none) with
  | none => rw [e2] at h; exact h.elim
  | some d0 =>
  rw [e2, Res.of_some, Res.fl_ok] at h
  by_cases hk : isKd .dict d0 = true
  · rw [if_pos hk] at h
    obtain ⟨kvs, rfl⟩ := isKd_dict hk
    have hq := hp ρ σ H1 z1 m1 se1 (st1.ok.drop fun b => Nat.le_add_right _ _) ks e1 hn (by rw [e2]; rfl)
    refine hq _ fun w v0 H2 z2 m2 hv pv se2 st2 ex2 => ?_
    have okf := (st2.frame (r := mv) st1.ok)
    refine hx ρ σ H2 z2 m2 se2 st2.ok _ (Res.post_mono (post_fl h) (fun k h vk H3 z3 m3 mk se3 rk st3 ex3 ag => ?_) fun _ h => h.ext (ex1.trans ex2))
    cases e3 : updAt (subv k y) ks (ρ.getD i .none) with
    | none => rw [e3] at h; exact h.elim
    | some d' =>
    rw [e3, Res.of_some, Res.fl_ok] at h
    obtain ⟨d1, e4⟩ := updAt_some ks e2 e3
    have e4' := e4
    simp only [subv] at e4
    split at e4
    · rename_i hkk
      cases e4
      have st3d : Stp H2 z2 m2 H3 z3 m3 := st3.drop fun b => Nat.le_add_right _ _
      have okf3 := st3d.frame (r := mv) okf.ok
      have rv3 : Rp G.F H3 z3 τe y v mv := r1.ext (ex2.trans ex3) fun b q => st3.zz b (st2.zz b q)
      obtain ⟨z4, mv', r4, st4⟩ := sub_step hs rv3 (okf3.ok.drop fun b => Nat.le_add_left _ _)
      have st4' := st4.frame (r := m3) (okf3.ok.eqm fun b => by omega)
      have ok4 : Ok H3 z4 fun b => m3 b + mv' b := st4'.ok.eqm fun b => by omega
      have se4 : SE G.F H3 z4 Γ1 ρ σ m3 := se3.ext (fun _ _ q => q) st4.zz
      obtain ⟨m0, mr, c1, c2, c3, c4⟩ := mut_core (me := mv') ag se4 ok4 hi hst e2 (by rw [hn]; exact ht) hv (pv.ext ex3)
      have hs' : t.st = true := (Ty.st_inv c3).2
      obtain ⟨a, o, n1, rfl, hm0, mu, dp, _, rn, ln⟩ := dput_step hs' c1 (rk.ext (fun _ _ q => q) st4.zz) r4 (ok4.drop fun b => by have := c2 b; (try simp only); omega) hkk.1 hkk.2
      obtain ⟨d'', m', u1, u2, u3⟩ := c4 a o _ n1 (subv k y) e4' hm0 mu rn ln
      rw [e3] at u1
      cases u1
      refine ⟨a, _, rfl, dp, ?_⟩
      refine h σ _ z4 m' u2 ?_
      refine (((st1.trans okf).trans okf3).trans ?_).trans u3
      exact st4'.eqm (fun b => by omega) fun b => by omega
    · cases e4
  · rw [if_neg hk] at h
    exact h.elim

/-! ### setdefault -/
theorem DGet.ref {K : Frag} {w : World} {o : Option V} (g : DGN K w H a vk o) : (∃ kvs kk, Rd H a (.dK kvs) ∧ vk = kV kk ∧ o = valV kvs kk) ∨ (∃ kvs ks b, Rd H a (.dT kvs) ∧ vk = .ref b ∧ H b = some (.tup (ks.map kV)) ∧ o = valV kvs ks) ∨ ∃ xs k, NGet K w H a xs ∧ NKey K H vk k ∧ o = valN xs k := by
  rcases g with (⟨kvs, k, g⟩ | ⟨kvs, k, b, g⟩) | g
  · exact .inl ⟨kvs, k, g⟩
  · exact .inr (.inl ⟨kvs, k, b, g⟩)
  · exact .inr (.inr g)
theorem mt_setd {X : Cx} (hu : X.A.units + 65 < cLine) : MtR X "dict.setdefault" (rSetd X.K X.w) := by
  intro pins s σ H x vs v us Q I rx rs h
  obtain ⟨a, y, z, rfl, rfl, h⟩ := h
  obtain rfl : v = Value.ref a := rx
  cases rs with
  | cons r1 r2 =>
  cases r2 with
  | cons r2 r3 =>
  cases r3
  rcases h with ⟨kvs, kk, e, rfl, hl, h1, h2⟩ | ⟨xs, kk, b, g, rfl, hk, mu, hl, h1, h2⟩
  · exact d_setd I e r1 r2 hl (fun v hv w' s' I' rw' => ⟨v, H, I', rw', h1 v hv⟩) fun hn w' s' I' rw' => ⟨z, _, I', rw', h2 hn⟩
  · obtain ⟨_, hd, ws, rel, dd⟩ := ng_of I g
    have hz : ws.length ≤ sizeLine := by rw [← Paired.length rel]; omega
    obtain rfl := r1
    have val := rel.val kk
    refine call_setdefault_heap (hsz := hz) (nroom hu) (nkey_is I hk) hd dd (fun p hp => ?_) fun hn h' dd' hs => ?_
    · rw [hp] at val
      cases q0 : valN xs kk with
      | none => rw [q0] at val; exact (show False from val).elim
      | some v0 => rw [q0] at val; exact ⟨v0, H, I.tok _, val, h1 v0 q0⟩
    · rw [hn] at val
      cases q0 : valN xs kk with
      | some v0 => rw [q0] at val; exact (show False from val).elim
      | none => exact ⟨z, _, dctO_new I mu (by have := putN_len xs kk b z; omega) hd rel r2 dd' hs, r2, h2 q0⟩
/-- a key that is there: its value, and what comes of it when it is changed -/
theorem dict_focus {kvs : List (D × D)} (hs : t.st = true) (h : Rp G.F H z (.N .o t) (.dict kvs) v m0) (hk : Rp G.F H z τk k vk mk) (kok : kyOk kvs k = true) (hd : dlook kvs k = some d) (hl : kvs.length < sizeLine) :
    ∃ (a : Addr) (w : V) (mA mr : Ow), v = .ref a ∧ Rp G.F H z t d w mA ∧ (∀ b, m0 b = mA b + mr b) ∧ (∀ (Q : VK) (zv : V), Q w H → rSetd G.K G.w v [vk, zv] H Q) ∧ Mut (H a) ∧
      ∀ (p : Addr) (o : HO) (d1 : D) (m1 : Ow), H p ≠ none → Ok H z (fun b => one p b + mr b) → Rp G.F (upd H p o) z t d1 w m1 → Rp G.F (upd H p o) z (.N .o t) (.dict (dput kvs k d1)) v fun b => m1 b + mr b := by
  obtain ⟨q, t', a, e0, rfl, ks, ds, n0, n1, rfl, hm, hh⟩ := h.dict_two
  cases e0
  rcases hh with ⟨hk', nd, rfl, hle, hb, rl⟩ | ⟨xs, hne, hkt, hle, hb, rl⟩
  · obtain ⟨hH, h0⟩ := Box.own_is hb
    have len : hk'.length < sizeLine := by simpa [hle] using hl
    rcases kyOk_inv kok with ⟨k1, _⟩ | ⟨k1, k2⟩
    · obtain ⟨kk, rfl⟩ := keyOk_inv k1
      have ev : vk = kV kk := by
        cases kk with
        | inl i => exact Rp.int_inv hk
        | inr i => exact Rp.str_inv hk
      subst ev
      have pr := fun y => put_rel (y := y) (hk'.map fun p => kd p.1) ds (hk'.map (·.1)) (by simp [hle]) (keys_dk kk)
      rcases pr .none with ⟨_, _, h5⟩ | ⟨j, h3, h4, h5, _, h7⟩
      · rw [h5] at hd; cases hd
      · rw [h7] at hd
        obtain ⟨w, mA, mr, q1, q2, q3, q4⟩ := rl.at_ hd
        have hv : valV hk' kk = some w := by
          rw [List.getElem?_map, Option.map_eq_some_iff] at q1
          obtain ⟨p, q1, rfl⟩ := q1
          unfold valV
          rw [find_at (fun p => p.2) q1 h4 h5]
          rfl
        refine ⟨a, w, mA, fun b => one a b + mr b, rfl, q2, fun b => by have := hm b; have := h0 b; have := q3 b; (try simp only); omega, fun Q zv hq => ⟨a, _, _, rfl, rfl, .inl ⟨hk', kk, hH, rfl, len, fun v' e => ?_, fun e => ?_⟩⟩, by rw [hH]; trivial, fun p o d1 m1 hp ok r => ?_⟩
        · rw [hv] at e; cases e; exact hq
        · rw [hv] at e; cases e
        · have ap : a ≠ p := by
            intro e
            subst e
            have := (ok a).1
            simp only [one_self] at this
            omega
          rcases pr d1 with ⟨g3, _, _⟩ | ⟨j', g3, g4, g5, g6, _⟩
          · exact absurd (List.mem_of_getElem? h4) g3
          · have ej : j' = j := by
              rcases Nat.lt_trichotomy j' j with e | e | e
              · exact absurd g4 (h5 j' e)
              · exact e
              · exact absurd h4 (g5 j e)
            subst ej
            rw [g6]
            refine .cons (.dk (m := one a) (hk := hk') nd (by simp [hle]) ⟨by rw [upd_ne ap]; exact hH, fun _ => rfl⟩) (m1 := fun b => m1 b + mr b) (q4 p o d1 m1 hs (ok.drop fun b => by (try simp only); omega) r) (.nil (m := fun _ => 0) fun _ => rfl) fun b => by (try simp only); omega
    · exfalso
      cases hk' with
      | nil =>
        have hd0 : ds = [] := List.length_eq_zero_iff.mp hle
        subst hd0
        cases hd
      | cons p hk' =>
        cases ds with
        | nil => cases hle
        | cons d ds =>
          have := k2 (kd p.1, d) (by simp)
          rw [keyT_kd] at this
          cases this
  · obtain ⟨hH, h0⟩ := Box.own_is hb
    have hkl := hkt.len
    have len : xs.length < sizeLine := by
      have : (ks.zip ds).length = xs.length := by simp [hkl, hle]
      omega
    obtain ⟨p1, p2, r1, r2, r3⟩ := rl.parts (by rw [hkl, List.length_map])
    rcases kyOk_inv kok with ⟨_, k2⟩ | ⟨k1, k2⟩
    · exact (keysT_keyT hkt hne hle k2).elim
    · obtain ⟨kk, e1, e2⟩ := keyT_inv k1
      obtain ⟨b0, d0, rfl, w1, w2, w3⟩ := hk.nkey e1 e2
      have ng : NGet G.K G.w H a xs := ⟨.inl (.inl hH), nkeys_of hkt r1⟩
      have muA : Mut (H a) := by rw [hH]; trivial
      have pr := fun y => put_rel (y := y) ks ds (xs.map (·.1)) (by rw [hkl, hle]) (keys_dt e1 hkt.1)
      rcases pr .none with ⟨_, _, h5⟩ | ⟨j, h3, h4, h5, _, h7⟩
      · rw [h5] at hd; cases hd
      · rw [h7] at hd
        obtain ⟨w, mA, mr, q1, q2, q3, q4⟩ := r2.at_ hd
        have hv : valN xs kk = some w := by
          rw [List.getElem?_map, Option.map_eq_some_iff] at q1
          obtain ⟨p, q1, rfl⟩ := q1
          unfold valN
          rw [find_at (fun p => p.2.2) q1 h4 h5]
          rfl
        refine ⟨a, w, mA, fun b => one a b + (p1 b + mr b), rfl, q2, fun b => by have := hm b; have := h0 b; have := q3 b; have := r3 b; (try simp only); omega, fun Q zv hq => ⟨a, _, _, rfl, rfl, .inr ⟨xs, kk, b0, ng, rfl, ⟨b0, d0, rfl, w1, w2, w3⟩, muA, len, fun v' e => ?_, fun e => ?_⟩⟩, muA, fun p o d1 m1 hp ok r => ?_⟩
        · rw [hv] at e; cases e; exact hq
        · rw [hv] at e; cases e
        · have ap : a ≠ p := by
            intro e
            subst e
            have := (ok a).1
            simp only [one_self] at this
            omega
          rcases pr d1 with ⟨g3, _, _⟩ | ⟨j', g3, g4, g5, g6, _⟩
          · exact absurd (List.mem_of_getElem? h4) g3
          · have ej : j' = j := by
              rcases Nat.lt_trichotomy j' j with e | e | e
              · exact absurd g4 (h5 j' e)
              · exact e
              · exact absurd h4 (g5 j e)
            subst ej
            rw [g6]
            refine .cons (.dt (m := one a) hne hkt (by simp [hle]) ⟨by rw [upd_ne ap]; exact hH, fun _ => rfl⟩) (m1 := fun b => p1 b + (m1 b + mr b)) ?_ (.nil (m := fun _ => 0) fun _ => rfl) fun b => by (try simp only); omega
            exact RL.append (r1.write hs (ok.drop fun b => by (try simp only); omega)) (q4 p o d1 m1 hs (ok.drop fun b => by (try simp only); omega) r) fun _ => rfl
/-- a key that is not there: it gets the value -/
theorem dict_new {kvs : List (D × D)} (hs : t.st = true) (h : Rp G.F H z (.N .o t) (.dict kvs) v m0) (hk : Rp G.F H z τk k vk mk) (hy : Rp G.F H z t y vy my) (ok : Ok H z fun b => m0 b + my b) (kok : kyOk kvs k = true) (hd : dlook kvs k = none) (hl : kvs.length < sizeLine) :
    ∃ (a : Addr) (o : HO) (m1 : Ow), v = .ref a ∧ m0 a = 1 ∧ Mut (some o) ∧ (∀ (Q : VK), Q vy (upd H a o) → rSetd G.K G.w v [vk, vy] H Q) ∧ Rp G.F (upd H a o) z (.N .o t) (.dict (dput kvs k y)) v m1 ∧ ∀ b, m1 b ≤ m0 b + my b := by
  obtain ⟨a, o, m1, rfl, h1, h2, dp, sd, r, l⟩ := dput_step hs h hk hy ok kok hl
  exact ⟨a, o, m1, rfl, h1, h2, sd hd, r, l⟩
theorem dlook_dput : ∀ (kvs : List (D × D)) {k y : D}, PyData.eqv k k = true → dlook kvs k = none → dlook (dput kvs k y) k = some y ∧ ∀ y', dput (dput kvs k y) k y' = dput kvs k y'
  | [], k, y, e, _ => by simp [dput, dlook, e]
  | (a, b) :: kvs, k, y, e, h => by
    have ha : PyData.eqv a k = false := by
      cases q : PyData.eqv a k with
      | false => rfl
      | true => simp [dlook, List.find?_cons, q] at h
    have h' : dlook kvs k = none := by simpa [dlook, List.find?_cons, ha] using h
    obtain ⟨h1, h2⟩ := dlook_dput kvs (y := y) e h'
    refine ⟨?_, fun y' => ?_⟩
    · simp only [dput, ha]
      simpa [dlook, List.find?_cons, ha] using h1
    · simp [dput, ha, h2 y']
theorem kyOk_dput (kvs : List (D × D)) {k y : D} (h : kyOk kvs k = true) (n : dlook kvs k = none) : kyOk (dput kvs k y) k = true := by
  have aux : ∀ (P : D → Bool) (kvs : List (D × D)), (∀ p ∈ kvs, P p.1 = true) → P k = true → ∀ p ∈ dput kvs k y, P p.1 = true := by
    intro P kvs
    induction kvs with
    | nil => intro _ hk p hp; simp [dput] at hp; subst hp; exact hk
    | cons a kvs ih =>
      intro h1 hk p hp
      unfold dput at hp
      split at hp
      · rcases List.mem_cons.mp hp with e | hp
        · subst e; exact h1 a List.mem_cons_self
        · exact h1 p (List.mem_cons_of_mem _ hp)
      · rcases List.mem_cons.mp hp with e | hp
        · subst e; exact h1 _ List.mem_cons_self
        · exact ih (fun p hp => h1 p (List.mem_cons_of_mem _ hp)) hk p hp
  unfold kyOk
  rcases kyOk_inv h with ⟨k1, k2⟩ | ⟨k1, k2⟩
  · rw [k1, List.all_eq_true.mpr (aux keyOk kvs k2 k1)]
    rfl
  · rw [k1, List.all_eq_true.mpr (aux keyT kvs k2 k1)]
    simp
theorem len_dput : ∀ (kvs : List (D × D)) (k y : D), (dput kvs k y).length ≤ kvs.length + 1
  | [], _, _ => by simp [dput]
  | p :: kvs, k, y => by
    unfold dput
    split
    · simp
    · simp; exact len_dput kvs k y
theorem eqv_key {kvs : List (D × D)} (h : kyOk kvs k = true) : PyData.eqv k k = true := by
  rcases kyOk_inv h with ⟨k1, _⟩ | ⟨k1, _⟩
  · obtain ⟨kk, rfl⟩ := keyOk_inv k1
    rw [eqv_kd]
    simp
  · obtain ⟨kk, e1, e2⟩ := keyT_inv k1
    rw [eqv_nk k k e1 e1, NestedKey.beq_self]

/-! ### pop of a list -/
theorem ixN_seq0 {n : Nat} {x : Int} (h : ixN n x = some j) : seqIndex? x n = some j := (L2.ixN_seq h).1
def rPopI : V → List V → Hp → VK → Prop := fun x vs H Q => rPop x vs H Q ∨ rPopAt x vs H Q
theorem mt_popI {X : Cx} : MtR X "list.pop" rPopI := fun pins s σ H x vs v us Q I rx rv h => h.elim (fun h => mt_pop pins s σ H x vs v us Q I rx rv h) fun h => mt_popAt pins s σ H x vs v us Q I rx rv h
theorem RL.erase : ∀ {ds : List D} {vs : List V} {m : Ow} {j : Nat}, RL G.F H z τ ds vs m → ds[j]? = some d → ∃ (v : V) (m0 mr : Ow), vs[j]? = some v ∧ Rp G.F H z τ d v m0 ∧ RL G.F H z τ (ds.eraseIdx j) (vs.eraseIdx j) mr ∧ ∀ b, m b = m0 b + mr b
  | [], vs, m, j, h, e => by simp at e
  | x :: ds, [], m, j, h, e => by cases h
  | x :: ds, v :: vs, m, 0, h, e => by
    obtain ⟨m1, m2, h1, h2, h3⟩ := h.uncons
    simp only [List.getElem?_cons_zero, Option.some.injEq] at e
    subst e
    exact ⟨v, m1, m2, rfl, h1, by simpa using h2, h3⟩
  | x :: ds, v :: vs, m, j + 1, h, e => by
    obtain ⟨m1, m2, h1, h2, h3⟩ := h.uncons
    obtain ⟨w, m0, mr, q1, q2, q3, q4⟩ := RL.erase (j := j) h2 (by simpa using e)
    refine ⟨w, m0, fun b => m1 b + mr b, by simpa using q1, q2, ?_, fun b => by have := h3 b; have := q4 b; (try simp only); omega⟩
    simp only [List.eraseIdx_cons_succ]
    exact RL.cons' h1 q3 fun _ => rfl
theorem dropLast_erase {α : Type} : ∀ (l : List α), l ≠ [] → l.dropLast = l.eraseIdx (l.length - 1)
  | [], h => absurd rfl h
  | [x], _ => rfl
  | x :: y :: l, _ => by
    have := dropLast_erase (y :: l) (by simp)
    simp only [List.dropLast_cons₂, this]
    rfl
theorem EvS.popAt {ta : TA} {fa : Env → Res (List D)} (ha : EvA G W ta Γ Γ1 τs fa) (hi : Γ[i]? = some (some (.N .o t))) (hi1 : Γ1[i]? = some (some (.N .o t))) (hst : TyEnv.st Γ1 = true) (hj : j < Γ1.length) (hij : i ≠ j) :
    EvS G W true (tAsg (tBM G.K "list" rPopI (tVar i) ta) (gName j)) Γ (Γ1.set j (some t)) Γb τr fun ρ => if isKd .list (ρ.getD i .none) then (fa ρ).fl fun ds => (Res.of (popv ds (ρ.getD i .none))).fl fun p => .nx ((ρ.set i p.2).set j p.1) else .bad := by
  intro ρ σ H z m se ok Dn h
  dsimp only at h
  by_cases hk : isKd .list (ρ.getD i .none) = true
  · rw [if_pos hk] at h
    obtain ⟨xs, ex⟩ := isKd_list hk
    obtain ⟨v, k1, k2, hv, g2, g3, g4⟩ := se.get hi
    have g2' := g2
    rw [ex] at g2'
    obtain ⟨a, vl, n1, rfl, hH, rl, hm⟩ := g2'.own_inv
    refine ⟨.ref a, hv, .inl ⟨rfl, vl, .inl (.inl hH)⟩, ?_⟩
    refine ha ρ σ H z m se ok _ (Res.post_mono (post_fl h) (fun ds h vs H1 z1 m1 mw se1 r1 st1 ex1 => ?_) fun _ h => h)
    cases e3 : popv ds (ρ.getD i .none) with
    | none => rw [e3] at h; exact h.elim
    | some p =>
    rw [e3, Res.of_some, Res.fl_ok] at h
    obtain ⟨v', k1', k2', hv', g2, g3, g4⟩ := se1.get hi1
    rw [hv] at hv'
    cases hv'
    rw [ex] at g2 e3
    obtain ⟨a', vl', n1', ea, hH', rl', hm'⟩ := g2.own_inv
    cases ea
    have evl : vl' = vl := by
      have := ex1 _ _ hH
      rw [hH'] at this
      cases this
      rfl
    subst evl
    have fin : ∀ (l : Nat) (y : D), xs[l]? = some y → p = (y, .list (xs.eraseIdx l)) → ∃ w, vl'[l]? = some w ∧ Dn.nx (σ.set j (some w)) (upd H1 a (.lst (vl'.eraseIdx l))) := by
      intro l y hy hp
      subst hp
      obtain ⟨w, c0, cr, q1, q2, q3, q4⟩ := rl'.erase hy
      refine ⟨w, q1, ?_⟩
      have ha1 : m1 a = 1 := by
        have h1 := hm' a
        rw [one_self] at h1
        have h2 := g4 a
        have h3 := (st1.ok a).1
        (try simp only at h3)
        omega
      have okA : Ok H1 z1 fun b => En.one a b + (c0 b + (cr b + k2' b)) := st1.ok.drop fun b => by have := hm' b; have := g4 b; have := q4 b; (try simp only); omega
      have hts : t.st = true := by
        have := TyEnv.st_get hst hi1
        exact (Ty.st_inv this).2
      have sw := g3.write (p := a) (o := .lst (vl'.eraseIdx l)) (TyEnv.st_none i hst) (okA.drop fun b => by (try simp only); omega) trivial
      have rw0 := RL.write q2 (p := a) (o := .lst (vl'.eraseIdx l)) hts (okA.drop fun b => by (try simp only); omega)
      have rw1 := q3.write (p := a) (o := .lst (vl'.eraseIdx l)) hts (okA.drop fun b => by (try simp only); omega)
      have hlen : i < Γ1.length := by
        rcases Nat.lt_or_ge i Γ1.length with h | h
        · exact h
        · rw [List.getElem?_eq_none h] at hi1; cases hi1
      have rL : Rp G.F (upd H1 a (.lst (vl'.eraseIdx l))) z1 (.N .o t) (.list (xs.eraseIdx l)) (.ref a) (fun b => En.one a b + cr b) := Rp.mkL ⟨upd_same, fun _ => rfl⟩ rw1 fun _ => rfl
      obtain ⟨m2, p1, p2⟩ := sw.put i (by rw [List.length_set]; exact hlen) rL
      rw [List.set_set, set_back hi1, set_back hv] at p1
      obtain ⟨m3, p3, p4⟩ := SE.put j p1 hj rw0
      refine h (σ.set j (some w)) _ z1 _ p3 ?_
      have s2 : Stp H z m H1 z1 m1 := st1.drop fun b => Nat.le_add_right _ _
      refine s2.trans ((Stp.write s2.ok ha1 (o := .lst (vl'.eraseIdx l)) trivial).drop fun b => ?_)
      have := p4 b
      have := p2 b
      have := q4 b
      have := hm' b
      have := g4 b
      (try simp only at *)
      omega
    unfold popv at e3
    split at e3
    · rename_i he
      cases he
      split at e3
      · cases e3
      · rename_i hne
        simp only [Option.map_eq_some_iff] at e3
        obtain ⟨y, hy, rfl⟩ := e3
        cases r1
        have hl : xs[xs.length - 1]? = some y := by rw [← List.getLast?_eq_getElem?]; exact hy
        obtain ⟨w, q1, q2⟩ := fin (xs.length - 1) y hl (by rw [dropLast_erase xs hne])
        have ll := rl'.length
        rw [ll] at q1 q2
        refine .inl ⟨a, vl', w, rfl, rfl, hH', q1, ?_⟩
        rw [dropLast_erase vl' (by intro e; rw [e] at q1; simp at q1)]
        exact q2
    · rename_i ds' d' ix xs' he
      cases he
      split at e3
      · rename_i hb
        cases e4 : ixN xs.length ix with
        | none => rw [e4] at e3; cases e3
        | some l =>
          rw [e4, Option.bind_some, Option.map_eq_some_iff] at e3
          obtain ⟨y, hy, rfl⟩ := e3
          obtain ⟨_, v2, _, _, rfl, h2, _⟩ := r1.one1
          obtain rfl := Rp.int_inv h2
          obtain ⟨w, q1, q2⟩ := fin l y hy rfl
          refine .inr ⟨a, vl', ix, l, w, rfl, rfl, hH', hb.1, hb.2, ?_, q1, q2⟩
          rw [← rl'.length]
          exact ixN_seq0 e4
      · cases e3
    · cases e3
  · rw [if_neg hk] at h
    exact h.elim
theorem EvS.popX {ta : TA} {fa : Env → Res (List D)} (ha : EvA G W ta Γ Γ1 τs fa) (hi : Γ[i]? = some (some (.N .o t))) (hi1 : Γ1[i]? = some (some (.N .o t))) (hst : TyEnv.st Γ1 = true) :
    EvS G W true (tDrop (tBM G.K "list" rPopI (tVar i) ta)) Γ Γ1 Γb τr fun ρ => if isKd .list (ρ.getD i .none) then (fa ρ).fl fun ds => (Res.of (popv ds (ρ.getD i .none))).fl fun p => .nx (ρ.set i p.2) else .bad := by
  intro ρ σ H z m se ok Dn h
  dsimp only at h
  by_cases hk : isKd .list (ρ.getD i .none) = true
  · rw [if_pos hk] at h
    obtain ⟨xs, ex⟩ := isKd_list hk
    obtain ⟨v, k1, k2, hv, g2, g3, g4⟩ := se.get hi
    have g2' := g2
    rw [ex] at g2'
    obtain ⟨a, vl, n1, rfl, hH, rl, hm⟩ := g2'.own_inv
    refine ⟨.ref a, hv, .inl ⟨rfl, vl, .inl (.inl hH)⟩, ?_⟩
    refine ha ρ σ H z m se ok _ (Res.post_mono (post_fl h) (fun ds h vs H1 z1 m1 mw se1 r1 st1 ex1 => ?_) fun _ h => h)
    cases e3 : popv ds (ρ.getD i .none) with
    | none => rw [e3] at h; exact h.elim
    | some p =>
    rw [e3, Res.of_some, Res.fl_ok] at h
    obtain ⟨v', k1', k2', hv', g2, g3, g4⟩ := se1.get hi1
    rw [hv] at hv'
    cases hv'
    rw [ex] at g2 e3
    obtain ⟨a', vl', n1', ea, hH', rl', hm'⟩ := g2.own_inv
    cases ea
    have evl : vl' = vl := by
      have := ex1 _ _ hH
      rw [hH'] at this
      cases this
      rfl
    subst evl
    have fin : ∀ (l : Nat) (y : D), xs[l]? = some y → p = (y, .list (xs.eraseIdx l)) → ∃ w, vl'[l]? = some w ∧ Dn.nx σ (upd H1 a (.lst (vl'.eraseIdx l))) := by
      intro l y hy hp
      subst hp
      obtain ⟨w, c0, cr, q1, q2, q3, q4⟩ := rl'.erase hy
      refine ⟨w, q1, ?_⟩
      have ha1 : m1 a = 1 := by
        have h1 := hm' a
        rw [one_self] at h1
        have h2 := g4 a
        have h3 := (st1.ok a).1
        (try simp only at h3)
        omega
      have okA : Ok H1 z1 fun b => En.one a b + (c0 b + (cr b + k2' b)) := st1.ok.drop fun b => by have := hm' b; have := g4 b; have := q4 b; (try simp only); omega
      have hts : t.st = true := by
        have := TyEnv.st_get hst hi1
        exact (Ty.st_inv this).2
      have sw := g3.write (p := a) (o := .lst (vl'.eraseIdx l)) (TyEnv.st_none i hst) (okA.drop fun b => by (try simp only); omega) trivial
      have rw0 := RL.write q2 (p := a) (o := .lst (vl'.eraseIdx l)) hts (okA.drop fun b => by (try simp only); omega)
      have rw1 := q3.write (p := a) (o := .lst (vl'.eraseIdx l)) hts (okA.drop fun b => by (try simp only); omega)
      have hlen : i < Γ1.length := by
        rcases Nat.lt_or_ge i Γ1.length with h | h
        · exact h
        · rw [List.getElem?_eq_none h] at hi1; cases hi1
      have rL : Rp G.F (upd H1 a (.lst (vl'.eraseIdx l))) z1 (.N .o t) (.list (xs.eraseIdx l)) (.ref a) (fun b => En.one a b + cr b) := Rp.mkL ⟨upd_same, fun _ => rfl⟩ rw1 fun _ => rfl
      obtain ⟨m2, p1, p2⟩ := sw.put i (by rw [List.length_set]; exact hlen) rL
      rw [List.set_set, set_back hi1, set_back hv] at p1
      refine h σ _ z1 _ p1 ?_
      have s2 : Stp H z m H1 z1 m1 := st1.drop fun b => Nat.le_add_right _ _
      refine s2.trans ((Stp.write s2.ok ha1 (o := .lst (vl'.eraseIdx l)) trivial).drop fun b => ?_)
      have := p2 b
      have := q4 b
      have := hm' b
      have := g4 b
      (try simp only at *)
      omega
    unfold popv at e3
    split at e3
    · rename_i he
      cases he
      split at e3
      · cases e3
      · rename_i hne
        simp only [Option.map_eq_some_iff] at e3
        obtain ⟨y, hy, rfl⟩ := e3
        cases r1
        have hl : xs[xs.length - 1]? = some y := by rw [← List.getLast?_eq_getElem?]; exact hy
        obtain ⟨w, q1, q2⟩ := fin (xs.length - 1) y hl (by rw [dropLast_erase xs hne])
        have ll := rl'.length
        rw [ll] at q1 q2
        refine .inl ⟨a, vl', w, rfl, rfl, hH', q1, ?_⟩
        rw [dropLast_erase vl' (by intro e; rw [e] at q1; simp at q1)]
        exact q2
    · rename_i ds' d' ix xs' he
      cases he
      split at e3
      · rename_i hb
        cases e4 : ixN xs.length ix with
        | none => rw [e4] at e3; cases e3
        | some l =>
          rw [e4, Option.bind_some, Option.map_eq_some_iff] at e3
          obtain ⟨y, hy, rfl⟩ := e3
          obtain ⟨_, v2, _, _, rfl, h2, _⟩ := r1.one1
          obtain rfl := Rp.int_inv h2
          obtain ⟨w, q1, q2⟩ := fin l y hy rfl
          refine .inr ⟨a, vl', ix, l, w, rfl, rfl, hH', hb.1, hb.2, ?_, q1, q2⟩
          rw [← rl'.length]
          exact ixN_seq0 e4
      · cases e3
    · cases e3
  · rw [if_neg hk] at h
    exact h.elim
end En

set_option Elab.async false
set_option linter.all false
set_option autoImplicit false
set_option maxRecDepth 100000
set_option maxHeartbeats 1000000
namespace En
open PySem PySem.Spec PyProof.Rows L2 RZ
variable {G : Gx} {W : WX} {H H' H'' : Hp} {z z' z'' : Addr → Prop} {τ τ' τ0 t τe τk : Ty} {d d0 d1 y k : D} {v v0 vk vy : V} {ds xs ks : List D} {vs vl : List V} {m m' m1 m2 m0 ms me mv my mk n1 : Ow} {Γ Γ' Γ1 Γ2 Γb : TyEnv} {ρ ρ' : Env} {σ σ' : L2.St} {τs ts : List Ty} {τr : Ty} {i j : Nat} {a : Addr}
/-! ## a list within a dict is changed -/
theorem Box.own_ext {K : Frag} {o : HO} {w : Prop} {p : Addr} {o1 : HO} (hH : H a = some o) (ex : Ext H H') (ap : a ≠ p) : Box K (upd H' p o1) z a o w .o (one a) := ⟨by rw [upd_ne ap]; exact ex _ _ hH, fun _ => rfl⟩
theorem one_ne {p : Addr} {n : Ow} (ok : Ok H z fun b => one p b + (one a b + n b)) : a ≠ p := by
  intro e
  subst e
  have := (ok a).1
  simp only [one_self] at this
  omega
/-- a key that is there: its value; later it is changed -/
theorem dict_foc {kvs : List (D × D)} (hs : t.st = true) (h : Rp G.F H z (.N .o t) (.dict kvs) v m0) (hk : Rp G.F H z τk k vk mk) (kok : kyOk kvs k = true) (hd : dlook kvs k = some d) (hl : kvs.length < sizeLine) :
    ∃ (a : Addr) (w : V), v = .ref a ∧ (∀ (Q : VK) (zv : V), Q w H → rSetd G.K G.w v [vk, zv] H Q) ∧ DGN G.K G.w H a vk (some w) ∧
      ∀ (H4 : Hp) (z4 : Addr → Prop), Ext H H4 → (∀ b, z b → z4 b) → ∃ mA mr : Ow, Rp G.F H4 z4 t d w mA ∧ (∀ b, m0 b = mA b + mr b) ∧
        ∀ (p : Addr) (o : HO) (d1 : D) (m1 : Ow), Ok H4 z4 (fun b => one p b + mr b) → Rp G.F (upd H4 p o) z4 t d1 w m1 → Rp G.F (upd H4 p o) z4 (.N .o t) (.dict (dput kvs k d1)) v fun b => m1 b + mr b := by
  obtain ⟨q, t', a, e0, rfl, ks, ds, n0, n1, rfl, hm, hh⟩ := h.dict_two
  cases e0
  rcases hh with ⟨hk', nd, rfl, hle, hb, rl⟩ | ⟨xs, hne, hkt, hle, hb, rl⟩
  · obtain ⟨hH, h0⟩ := Box.own_is hb
    have len : hk'.length < sizeLine := by simpa [hle] using hl
    rcases kyOk_inv kok with ⟨k1, _⟩ | ⟨k1, k2⟩
    · obtain ⟨kk, rfl⟩ := keyOk_inv k1
      have ev : vk = kV kk := by
        cases kk with
        | inl i => exact Rp.int_inv hk
        | inr i => exact Rp.str_inv hk
      subst ev
      have pr := fun y => put_rel (y := y) (hk'.map fun p => kd p.1) ds (hk'.map (·.1)) (by simp [hle]) (keys_dk kk)
      rcases pr .none with ⟨_, _, h5⟩ | ⟨j, h3, h4, h5, _, h7⟩
      · rw [h5] at hd; cases hd
      · rw [h7] at hd
        obtain ⟨w, mA, mr, q1, q2, q3, q4⟩ := rl.at_ hd
        have hv : valV hk' kk = some w := by
          have q9 := q1
          rw [List.getElem?_map, Option.map_eq_some_iff] at q9
          obtain ⟨p, q8, rfl⟩ := q9
          unfold valV
          rw [find_at (fun p => p.2) q8 h4 h5]
          rfl
        refine ⟨a, w, rfl, fun Q zv hq => ⟨a, _, _, rfl, rfl, .inl ⟨hk', kk, hH, rfl, len, fun v' e => ?_, fun e => ?_⟩⟩, .inl ?_, fun H4 z4 ex zz => ?_⟩
        · rw [hv] at e; cases e; exact hq
        · rw [hv] at e; cases e
        · rw [← hv]; exact DGet.k hH
        · obtain ⟨w2, mB, ms, g1, g2, g3, g4⟩ := (rl.ext ex zz).at_ hd
          rw [q1] at g1
          cases g1
          refine ⟨mB, fun b => one a b + ms b, g2, fun b => by have := hm b; have := h0 b; have := g3 b; (try simp only); omega, fun p o d1 m1 ok r => ?_⟩
          have ap : a ≠ p := one_ne ok
          rcases pr d1 with ⟨g3, _, _⟩ | ⟨j', g3, g4', g5, g6, _⟩
          · exact absurd (List.mem_of_getElem? h4) g3
          · have ej : j' = j := by
              rcases Nat.lt_trichotomy j' j with e | e | e
              · exact absurd g4' (h5 j' e)
              · exact e
              · exact absurd h4 (g5 j e)
            subst ej
            rw [g6]
            exact .cons (.dk (m := one a) (hk := hk') nd (by simp [hle]) (Box.own_ext hH ex ap)) (m1 := fun b => m1 b + ms b) (g4 p o d1 m1 hs (ok.drop fun b => by (try simp only); omega) r) (.nil (m := fun _ => 0) fun _ => rfl) fun b => by (try simp only); omega
    · exfalso
      cases hk' with
      | nil =>
        have hd0 : ds = [] := List.length_eq_zero_iff.mp hle
        subst hd0
        cases hd
      | cons p hk' =>
        cases ds with
        | nil => cases hle
        | cons d ds =>
          have := k2 (kd p.1, d) (by simp)
          rw [keyT_kd] at this
          cases this
  · obtain ⟨hH, h0⟩ := Box.own_is hb
    have hkl := hkt.len
    have len : xs.length < sizeLine := by
      have : (ks.zip ds).length = xs.length := by simp [hkl, hle]
      omega
    obtain ⟨p1, p2, r1, r2, r3⟩ := rl.parts (by rw [hkl, List.length_map])
    rcases kyOk_inv kok with ⟨_, k2⟩ | ⟨k1, k2⟩
    · exact (keysT_keyT hkt hne hle k2).elim
    · obtain ⟨kk, e1, e2⟩ := keyT_inv k1
      obtain ⟨b0, d0, rfl, w1, w2, w3⟩ := hk.nkey e1 e2
      have ng : NGet G.K G.w H a xs := ⟨.inl (.inl hH), nkeys_of hkt r1⟩
      have muA : Mut (H a) := by rw [hH]; trivial
      have pr := fun y => put_rel (y := y) ks ds (xs.map (·.1)) (by rw [hkl, hle]) (keys_dt e1 hkt.1)
      rcases pr .none with ⟨_, _, h5⟩ | ⟨j, h3, h4, h5, _, h7⟩
      · rw [h5] at hd; cases hd
      · rw [h7] at hd
        obtain ⟨w, mA, mr, q1, q2, q3, q4⟩ := r2.at_ hd
        have hv : valN xs kk = some w := by
          have q9 := q1
          rw [List.getElem?_map, Option.map_eq_some_iff] at q9
          obtain ⟨p, q8, rfl⟩ := q9
          unfold valN
          rw [find_at (fun p => p.2.2) q8 h4 h5]
          rfl
        refine ⟨a, w, rfl, fun Q zv hq => ⟨a, _, _, rfl, rfl, .inr ⟨xs, kk, b0, ng, rfl, ⟨b0, d0, rfl, w1, w2, w3⟩, muA, len, fun v' e => ?_, fun e => ?_⟩⟩, .inr ⟨xs, kk, ng, ⟨b0, d0, rfl, w1, w2, w3⟩, hv.symm⟩, fun H4 z4 ex zz => ?_⟩
        · rw [hv] at e; cases e; exact hq
        · rw [hv] at e; cases e
        · obtain ⟨w2, mB, ms, g1, g2, g3, g4⟩ := (r2.ext ex zz).at_ hd
          rw [q1] at g1
          cases g1
          refine ⟨mB, fun b => one a b + (p1 b + ms b), g2, fun b => by have := hm b; have := h0 b; have := g3 b; have := r3 b; (try simp only); omega, fun p o d1 m1 ok r => ?_⟩
          have ap : a ≠ p := one_ne ok
          rcases pr d1 with ⟨g3, _, _⟩ | ⟨j', g3, g4', g5, g6, _⟩
          · exact absurd (List.mem_of_getElem? h4) g3
          · have ej : j' = j := by
              rcases Nat.lt_trichotomy j' j with e | e | e
              · exact absurd g4' (h5 j' e)
              · exact e
              · exact absurd h4 (g5 j e)
            subst ej
            rw [g6]
            refine .cons (.dt (m := one a) hne hkt (by simp [hle]) (Box.own_ext hH ex ap)) (m1 := fun b => p1 b + (m1 b + ms b)) ?_ (.nil (m := fun _ => 0) fun _ => rfl) fun b => by (try simp only); omega
            exact RL.append ((r1.ext ex zz).write hs (ok.drop fun b => by (try simp only); omega)) (g4 p o d1 m1 hs (ok.drop fun b => by (try simp only); omega) r) fun _ => rfl
/-- a key that is not there: it gets a value; later that is changed -/
theorem dict_neu {kvs : List (D × D)} (hs : t.st = true) (h : Rp G.F H z (.N .o t) (.dict kvs) v m0) (hk : Rp G.F H z τk k vk mk) (ok : Ok H z m0) (kok : kyOk kvs k = true) (hd : dlook kvs k = none) (hl : kvs.length < sizeLine) :
    ∃ (a : Addr) (o : HO), v = .ref a ∧ m0 a = 1 ∧ Mut (some o) ∧ (∀ Q : VK, Q vy (upd H a o) → rSetd G.K G.w v [vk, vy] H Q) ∧
      ∀ (H4 : Hp) (z4 : Addr → Prop), Ext (upd H a o) H4 → (∀ b, z b → z4 b) →
        ∀ (p : Addr) (o1 : HO) (d1 : D) (m1 : Ow), Ok H4 z4 (fun b => one p b + m0 b) → Rp G.F (upd H4 p o1) z4 t d1 vy m1 → Rp G.F (upd H4 p o1) z4 (.N .o t) (.dict (dput kvs k d1)) v fun b => m1 b + m0 b := by
  obtain ⟨q, t', a, e0, rfl, ks, ds, n0, n1, rfl, hm, hh⟩ := h.dict_two
  cases e0
  rcases hh with ⟨hk', nd, rfl, hle, hb, rl⟩ | ⟨xs, hne, hkt, hle, hb, rl⟩
  · obtain ⟨hH, h0⟩ := Box.own_is hb
    have ha1 : m0 a = 1 := by
      have h1 := hm a
      have h2 := h0 a
      rw [one_self] at h2
      have h3 := (ok a).1
      omega
    have okA : Ok H z fun b => one a b + n1 b := ok.drop fun b => by have := hm b; have := h0 b; (try simp only); omega
    have len : hk'.length < sizeLine := by simpa [hle] using hl
    rcases kyOk_inv kok with ⟨k1, _⟩ | ⟨k1, k2⟩
    · obtain ⟨kk, rfl⟩ := keyOk_inv k1
      have ev : vk = kV kk := by
        cases kk with
        | inl i => exact Rp.int_inv hk
        | inr i => exact Rp.str_inv hk
      subst ev
      have pr := fun y => put_rel (y := y) (hk'.map fun p => kd p.1) ds (hk'.map (·.1)) (by simp [hle]) (keys_dk kk)
      rcases pr .none with ⟨h3, _, _⟩ | ⟨j, h3, h4, h5, h6, h7⟩
      · have nv : valV hk' kk = none := by unfold valV; rw [find_no h3]; rfl
        have ep : putK hk' kk vy = hk' ++ [(kk, vy)] := putK_new vy nv
        refine ⟨a, .dK (putK hk' kk vy), rfl, ha1, trivial, fun Q q => ⟨a, _, _, rfl, rfl, .inl ⟨hk', kk, hH, rfl, len, fun v' e => (by rw [nv] at e; cases e), fun _ => q⟩⟩, fun H4 z4 ex zz p o1 d1 m1 ok4 r => ?_⟩
        have ok4' : Ok H4 z4 fun b => one p b + (one a b + n1 b) := ok4.drop fun b => by have := hm b; have := h0 b; (try simp only); omega
        have ap : a ≠ p := one_ne ok4'
        rcases pr d1 with ⟨_, h4, _⟩ | ⟨j, g3, g4, _, _, _⟩
        · rw [h4, show (hk'.map (fun p => kd p.1) ++ [kd kk]) = (putK hk' kk vy).map (fun p => kd p.1) by rw [ep]; simp]
          refine .cons (.dk (m := one a) ?_ ?_ (Box.own_ext upd_same ex ap)) (m1 := fun b => n1 b + m1 b) ?_ (.nil (m := fun _ => 0) fun _ => rfl) fun b => by have := hm b; have := h0 b; (try simp only); omega
          · rw [ep]
            simp only [List.map_append, List.map_cons, List.map_nil]
            exact List.nodup_append.mpr ⟨nd, by simp, fun x hx y hy e => by simp at hy; subst hy; subst e; exact h3 hx⟩
          · rw [ep]; simp [hle]
          · rw [ep, List.map_append]
            refine RL.append ?_ r fun _ => rfl
            have := (rl.write (p := a) (o := .dK (putK hk' kk vy)) hs okA).ext ex zz
            exact this.write hs (ok4'.drop fun b => by (try simp only); omega)
        · exact absurd (List.mem_of_getElem? g4) h3
      · rw [h7, List.getElem?_eq_getElem h3] at hd; cases hd
    · have hk0 : hk' = [] := by
        cases hk' with
        | nil => rfl
        | cons p hk' =>
          exfalso
          cases ds with
          | nil => cases hle
          | cons d ds =>
            have := k2 (kd p.1, d) (by simp)
            rw [keyT_kd] at this
            cases this
      subst hk0
      have hd0 : ds = [] := List.length_eq_zero_iff.mp hle
      subst hd0
      obtain ⟨kk, e1, e2⟩ := keyT_inv k1
      obtain ⟨b0, d0, rfl, q1, q2, q3⟩ := hk.nkey e1 e2
      refine ⟨a, dctO G.w a (putN [] kk b0 vy), rfl, ha1, trivial, fun Q q => ⟨a, _, _, rfl, rfl, .inr ⟨[], kk, b0, ⟨.inr ⟨rfl, .inl hH⟩, fun x hx => by cases hx⟩, rfl, ⟨b0, d0, rfl, q1, q2, q3⟩, by rw [hH]; trivial, by simp [sizeLine_eq], fun v' e => (by cases e), fun _ => q⟩⟩, fun H4 z4 ex zz p o1 d1 m1 ok4 r => ?_⟩
      have ok4' : Ok H4 z4 fun b => one p b + (one a b + n1 b) := ok4.drop fun b => by have := hm b; have := h0 b; (try simp only); omega
      have ap : a ≠ p := one_ne ok4'
      have ep : putN [] kk b0 vy = [(kk, b0, vy)] := rfl
      have hkk := (hk.imm (nk_imm k e1).1 z).ofI t z
      rw [show dput (([] : List (Key × V)).map (fun p => kd p.1) |>.zip ([] : List D)) k d1 = [k].zip [d1] from rfl]
      refine .cons (.dt (m := one a) (xs := putN [] kk b0 vy) (ks := [k]) (ds := [d1]) (by rw [ep]; simp) ⟨by rw [ep]; simp [e1], fun x hx => by rw [ep, List.mem_singleton] at hx; subst hx; exact e2, by rw [ep]; simp⟩ (by rw [ep]; rfl) (Box.own_ext upd_same ex ap)) (m1 := m1) ?_ (.nil (m := fun _ => 0) fun _ => rfl) fun b => by have := hm b; have := h0 b; have := rl.zero b; (try simp only); omega
      rw [ep]
      show RL G.F _ z4 t ([k] ++ [d1]) ([.ref b0] ++ [vy]) m1
      refine RL.append (m1 := fun _ => 0) (m2 := m1) ?_ r fun b => by (try simp only); omega
      exact ((hkk.write (p := a) (o := dctO G.w a (putN [] kk b0 vy)) hs (okA.drop fun b => by (try simp only); omega)).ext ex zz).write hs (ok4'.drop fun b => by (try simp only); omega)
  · obtain ⟨hH, h0⟩ := Box.own_is hb
    have ha1 : m0 a = 1 := by
      have h1 := hm a
      have h2 := h0 a
      rw [one_self] at h2
      have h3 := (ok a).1
      omega
    have okA : Ok H z fun b => one a b + n1 b := ok.drop fun b => by have := hm b; have := h0 b; (try simp only); omega
    have hkl := hkt.len
    have len : xs.length < sizeLine := by
      have : (ks.zip ds).length = xs.length := by simp [hkl, hle]
      omega
    obtain ⟨p1, p2, r1, r2, r3⟩ := rl.parts (by rw [hkl, List.length_map])
    rcases kyOk_inv kok with ⟨_, k2⟩ | ⟨k1, k2⟩
    · exact (keysT_keyT hkt hne hle k2).elim
    · obtain ⟨kk, e1, e2⟩ := keyT_inv k1
      obtain ⟨b0, d0, rfl, q1, q2, q3⟩ := hk.nkey e1 e2
      have ng : NGet G.K G.w H a xs := ⟨.inl (.inl hH), nkeys_of hkt r1⟩
      have hkk := (hk.imm (nk_imm k e1).1 z).ofI t z
      have muA : Mut (H a) := by rw [hH]; trivial
      have pr := fun y => put_rel (y := y) ks ds (xs.map (·.1)) (by rw [hkl, hle]) (keys_dt e1 hkt.1)
      rcases pr .none with ⟨h3, _, _⟩ | ⟨j, h3, h4, h5, h6, h7⟩
      · have ev : valN xs kk = none := by unfold valN; rw [find_no h3]; rfl
        have ep : putN xs kk b0 vy = xs ++ [(kk, b0, vy)] := by unfold putN; rw [ev]; rfl
        refine ⟨a, dctO G.w a (putN xs kk b0 vy), rfl, ha1, trivial, fun Q q => ⟨a, _, _, rfl, rfl, .inr ⟨xs, kk, b0, ng, rfl, ⟨b0, d0, rfl, q1, q2, q3⟩, muA, len, fun v' e => (by rw [ev] at e; cases e), fun _ => q⟩⟩, fun H4 z4 ex zz p o1 d1 m1 ok4 r => ?_⟩
        have ok4' : Ok H4 z4 fun b => one p b + (one a b + (p1 b + p2 b)) := ok4.drop fun b => by have := hm b; have := h0 b; have := r3 b; (try simp only); omega
        have ap : a ≠ p := one_ne ok4'
        rcases pr d1 with ⟨_, h4, _⟩ | ⟨j, g3, g4, _, _, _⟩
        · rw [h4]
          refine .cons (.dt (m := one a) (xs := putN xs kk b0 vy) (by rw [ep]; simp) (by rw [ep]; exact hkt.put e1 e2 h3) (by rw [ep]; simp [hle]) (Box.own_ext upd_same ex ap)) (m1 := fun b => p1 b + (p2 b + m1 b)) ?_ (.nil (m := fun _ => 0) fun _ => rfl) fun b => by have := hm b; have := h0 b; have := r3 b; (try simp only); omega
          have wr : ∀ {τ : Ty} {ds : List D} {vs : List V} {n : Ow}, τ.st = true → RL G.F H z τ ds vs n → (∀ b, n b ≤ p1 b + p2 b) → RL G.F (upd H4 p o1) z4 τ ds vs n := fun st h l =>
            ((h.write (p := a) (o := dctO G.w a (putN xs kk b0 vy)) st (okA.drop fun b => by have := l b; have := r3 b; (try simp only); omega)).ext ex zz).write st (ok4'.drop fun b => by have := l b; (try simp only); omega)
          have w1 := wr hs r1 fun b => by omega
          have w2 := wr hs r2 fun b => by omega
          have w3 := wr hs hkk fun b => by omega
          clear wr
          rw [ep, List.map_append, List.map_append]
          refine RL.append (m1 := p1) (m2 := fun b => p2 b + m1 b) ?_ ?_ fun _ => rfl
          · exact RL.append (m1 := p1) (m2 := fun _ => 0) w1 w3 fun b => by (try simp only); omega
          · exact RL.append w2 r fun _ => rfl
        · exact absurd (List.mem_of_getElem? g4) h3
      · rw [h7, List.getElem?_eq_getElem h3] at hd; cases hd
theorem sdOk_inv {nw : Bool} {kvs : List (D × D)} (h : sdOk nw k (.dict kvs) = true) : kyOk kvs k = true ∧ kvs.length < sizeLine ∧ ((dlook kvs k = none ∧ nw = true) ∨ ∃ xs, dlook kvs k = some (.list xs) ∧ xs.length < sizeLine) := by
  unfold sdOk at h
  simp only [Bool.and_eq_true, decide_eq_true_eq] at h
  obtain ⟨⟨h1, h2⟩, h3⟩ := h
  refine ⟨h1, h2, ?_⟩
  cases e : dlook kvs k with
  | none => rw [e] at h3; exact .inl ⟨rfl, h3⟩
  | some d =>
    rw [e] at h3
    cases d <;> first | (simp at h3; done) | skip
    exact .inr ⟨_, rfl, by simpa using h3⟩
def sdT (K : Frag) (w : World) (i : Nat) (tk : TE) (nw : Bool) : TE := if nw then tBMW K w "dict" (rSetd K w) (tVar i) (tL [tk, tLst tNil]) else tDGetN K w (tVar i) tk
/-- the end of it: the list at w gets y -/
theorem sd_end {nw : Bool} {fe : Env → Res D} {te : TE} {kd : D} {kvs : List (D × D)} {xs : List D} {w : V} {Dn : Ends} {H0 : Hp} {z0 : Addr → Prop} {mT mD : Ow}
    (he : EvE G W te (Γ.set i none) (Γ.set i none) τe fe) (hi : Γ[i]? = some (some (.N .o (.N .o t)))) (hst : TyEnv.st Γ = true) (hs : En.sub τe t = true) (hσ : σ[i]? = some (some v)) (se : SE G.F H z (Γ.set i none) ρ σ m)
    (ok : Ok H z fun b => m b + mD b) (hw : ∀ b, w = .ref b → ∃ vl, H b = some (.lst vl)) (hr : ∃ b, w = .ref b)
    (st : Stp H0 z0 mT H z fun b => m b + mD b)
    (clo : ∀ (H4 : Hp) (z4 : Addr → Prop), Ext H H4 → (∀ b, z b → z4 b) → ∃ mA mr : Ow, Rp G.F H4 z4 (.N .o t) (.list xs) w mA ∧ (∀ b, mD b = mA b + mr b) ∧
        ∀ (p : Addr) (o : HO) (d1 : D) (m1 : Ow), Ok H4 z4 (fun b => one p b + mr b) → Rp G.F (upd H4 p o) z4 (.N .o t) d1 w m1 → Rp G.F (upd H4 p o) z4 (.N .o (.N .o t)) (.dict (dput kvs kd d1)) v fun b => m1 b + mr b)
    (hx : xs.length < sizeLine) (e0 : ρ.getD i .none = .dict kvs) (es : ∀ y, sdv kd y (.dict kvs) = some (.dict (dput kvs kd (.list (xs ++ [y])))))
    (h : FlP G W true Γ Γb τr Dn σ H0 z0 mT ((fe ρ).noex.fl fun y => (Res.of (sdv kd y (ρ.getD i .none))).fl fun d => .nx (ρ.set i d))) :
    tyV G.K "list" w H ∧ tCons te tNil σ H fun xs H2 => rAppend w xs H2 fun _ H1 => Dn.nx σ H1 := by
  obtain ⟨q, rfl⟩ := hr
  obtain ⟨vl, hq⟩ := hw q rfl
  refine ⟨.inl ⟨rfl, vl, .inl (.inl hq)⟩, ?_⟩
  cases ef : fe ρ with
  | bad => rw [ef] at h; exact h.elim
  | ex _ => rw [ef] at h; exact h.elim
  | ok y =>
  rw [ef, Res.noex_ok, Res.fl_ok, e0, es, Res.of_some, Res.fl_ok] at h
  refine he ρ σ H z m se (ok.drop fun b => by (try simp only); omega) _ ?_
  rw [ef]
  intro vy H3 z3 m3 my se3 r3 st3 ex3
  show rAppend (.ref q) [vy] H3 fun _ H1 => Dn.nx σ H1
  have fr := st3.frame (r := mD) ok
  -- the element as it is wanted
  obtain ⟨z4, my', r4, st4⟩ := sub_step hs r3 (fr.ok.drop fun b => by (try simp only); omega)
  have fr4 := st4.frame (r := fun b => m3 b + mD b) (fr.ok.eqm fun b => by (try simp only); omega)
  obtain ⟨mA, mr, c1, c2, c3⟩ := clo H3 z4 ex3 fun b q => st4.zz b (st3.zz b q)
  have ok4 : Ok H3 z4 fun b => my' b + (m3 b + mD b) := fr4.ok
  have hts : (Ty.N .o t).st = true := (Ty.st_inv (TyEnv.st_get hst hi)).2
  have ht : t.st = true := (Ty.st_inv hts).2
  obtain ⟨o, n1, b1, b2, b3, b4⟩ := mu_app (G := G) H3 z4 mA my' [y] [vy] xs q (.list (xs ++ [y])) ht c1 (.cons r4 (.nil fun _ => rfl) fun b => by (try simp only); omega) (ok4.drop fun b => by have := c2 b; (try simp only); omega) (by simp [muv, hx])
  refine b2 _ ?_
  have mA1 : mA q = 1 := by
    obtain ⟨a', _, s1, ea, _, _, s4⟩ := c1.own_inv
    cases ea
    have := s4 q
    rw [one_self] at this
    have := (ok4 q).1
    have := c2 q
    (try simp only at *)
    omega
  have hone : ∀ b, one q b ≤ mA b := fun b => by
    unfold one
    split
    · subst_vars; omega
    · omega
  have c4 := c3 q o _ n1 (ok4.drop fun b => by have := c2 b; have := hone b; (try simp only); omega) b3
  have seW := (se3.ext (fun _ _ q => q) st4.zz).write (p := q) (o := o) (TyEnv.st_none i hst) (ok4.drop fun b => by have := c2 b; have := hone b; (try simp only); omega) b1
  have hlen : i < Γ.length := by
    rcases Nat.lt_or_ge i Γ.length with h | h
    · exact h
    · rw [List.getElem?_eq_none h] at hi; cases hi
  obtain ⟨m5, p1, p2⟩ := seW.put i (by rw [List.length_set]; exact hlen) c4
  rw [List.set_set, set_back hi, set_back hσ] at p1
  refine h σ (upd H3 q o) z4 _ p1 ?_
  have tot := (st.trans (fr.eqm (m4 := fun b => my b + (m3 b + mD b)) (fun _ => rfl) fun b => by (try simp only); omega)).trans fr4
  refine tot.trans ((Stp.write ok4 ?_ b1).drop fun b => ?_)
  · have := (ok4 q).1
    have := c2 q
    (try simp only at *)
    omega
  · have := p2 b
    have := b4 b
    have := c2 b
    (try simp only at *)
    omega
theorem EvS.sdapp {nw : Bool} {tk te : TE} {fk fe : Env → Res D} (hk : EvE G W tk Γ Γ τk fk) (he : EvE G W te (Γ.set i none) (Γ.set i none) τe fe) (hi : Γ[i]? = some (some (.N .o (.N .o t)))) (hst : TyEnv.st Γ = true) (hs : En.sub τe t = true) :
    EvS G W true (tDrop (tBM G.K "list" rAppend (sdT G.K G.w i tk nw) (tL [te]))) Γ Γ Γb τr fun ρ => if isKd .dict (ρ.getD i .none) then (fk ρ).fl fun kd => if sdOk nw kd (ρ.getD i .none) then (fe ρ).noex.fl fun y => (Res.of (sdv kd y (ρ.getD i .none))).fl fun d => .nx (ρ.set i d) else .bad else .bad := by
  intro ρ σ H z m se ok Dn h
  dsimp only at h
  by_cases hd : isKd .dict (ρ.getD i .none) = true
  case neg => rw [if_neg hd] at h; exact h.elim
  rw [if_pos hd] at h
  obtain ⟨kvs, ekv⟩ := isKd_dict hd
  obtain ⟨v, k1, k2, g1, g2, g3, g4⟩ := se.get hi
  have hts : (Ty.N .o t).st = true := (Ty.st_inv (TyEnv.st_get hst hi)).2
  cases nw with
  | true =>
    refine ⟨v, g1, g2.tyW (k := .dict) hd (.inr rfl), ?_⟩
    refine hk ρ σ H z m se ok _ (Res.post_mono (post_fl h) (fun kd h vk H1 z1 m1 mk se1 rk st1 ex1 => ?_) fun _ h => h)
    by_cases so : sdOk true kd (ρ.getD i .none) = true
    case neg => rw [if_neg so] at h; exact h.elim
    rw [if_pos so] at h
    rw [ekv] at so
    obtain ⟨kok, len, kc⟩ := sdOk_inv so
    refine ⟨by simp [sizeLine_eq], fun p hp => ?_⟩
    have ok1 : Ok H1 z1 m1 := st1.ok.drop fun b => by (try simp only); omega
    have st2 : Stp H z m (upd H1 p (.lst [])) z1 fun b => En.one p b + (m1 b + mk b) := st1.own hp trivial
    obtain ⟨v', n1, n2, u1, u2, u3, u4⟩ := (se1.new (o := .lst []) hp).get hi
    rw [g1] at u1
    cases u1
    rw [ekv] at u2
    have rk2 := rk.new (o := .lst []) hp
    show rSetd G.K G.w v [vk, .ref p] (upd H1 p (.lst [])) fun x H1 => tyV G.K "list" x H1 ∧ tL [te] σ H1 fun xs H2 => rAppend x xs H2 fun x H1 => Dn.nx σ H1
    rcases kc with ⟨hn, _⟩ | ⟨xs, hn, hx⟩
    · have okn : Ok (upd H1 p (.lst [])) z1 n1 := st2.ok.drop fun b => by have := u4 b; (try simp only); omega
      obtain ⟨a, o, rfl, ha, mu, sd, clo⟩ := dict_neu (vy := .ref p) hts u2 rk2 okn kok hn len
      refine sd _ ?_
      have ap : a ≠ p := by
        intro e
        subst e
        have := (st2.ok a).1
        have := u4 a
        rw [En.one_self] at *
        omega
      have okT : Ok (upd H1 p (.lst [])) z1 fun b => En.one p b + (n1 b + n2 b) := st2.ok.drop fun b => by have := u4 b; (try simp only); omega
      have se3 := u3.write (p := a) (o := o) (TyEnv.st_none i hst) (okT.drop fun b => by
        have : En.one a b ≤ n1 b := by
          unfold En.one
          split
          · subst_vars; omega
          · omega
        (try simp only); omega) mu
      have stw : Stp H z m (upd (upd H1 p (.lst [])) a o) z1 fun b => En.one p b + (n1 b + n2 b) := (st2.drop fun b => by have := u4 b; (try simp only); omega).trans (Stp.write okT (by have := (okT a).1; (try simp only at *); omega) mu)
      refine sd_end (mD := fun b => En.one p b + n1 b) (xs := []) (nw := true) he hi hst hs g1 se3 (stw.ok.eqm fun b => by (try simp only); omega) (fun b e => by cases e; exact ⟨[], by rw [upd_ne (Ne.symm ap)]; exact upd_same⟩) ⟨p, rfl⟩ (stw.eqm (fun _ => rfl) fun b => by (try simp only); omega) (fun H4 z4 ex zz => ⟨En.one p, n1, ?_, fun _ => rfl, clo H4 z4 ex zz⟩) (by simp [sizeLine_eq]) ekv (fun y => by simp [sdv, hn]) h
      exact Rp.mkL ⟨ex _ _ (by rw [upd_ne (Ne.symm ap)]; exact upd_same), fun _ => rfl⟩ (.nil (m := fun _ => 0) fun _ => rfl) fun _ => rfl
    · obtain ⟨a, w, rfl, sd, _, clo⟩ := dict_foc hts u2 rk2 kok hn len
      refine sd _ (.ref p) ?_
      obtain ⟨mA, mr, c1, c2, c3⟩ := clo _ _ Ext.refl fun _ q => q
      obtain ⟨a', vl, _, rfl, hH, _, _⟩ := c1.own_inv
      have stw := st2.drop (m1 := fun b => n2 b + n1 b) fun b => by have := u4 b; (try simp only); omega
      exact sd_end (nw := true) he hi hst hs g1 u3 stw.ok (fun b e => by cases e; exact ⟨vl, hH⟩) ⟨a', rfl⟩ stw clo hx ekv (fun y => by simp [sdv, hn]) h
  | false =>
    refine ⟨v, g1, ?_⟩
    refine hk ρ σ H z m se ok _ (Res.post_mono (post_fl h) (fun kd h vk H1 z1 m1 mk se1 rk st1 ex1 => ?_) fun _ h => h)
    by_cases so : sdOk false kd (ρ.getD i .none) = true
    case neg => rw [if_neg so] at h; exact h.elim
    rw [if_pos so] at h
    rw [ekv] at so
    obtain ⟨kok, len, kc⟩ := sdOk_inv so
    obtain ⟨v', n1, n2, u1, u2, u3, u4⟩ := se1.get hi
    rw [g1] at u1
    cases u1
    rw [ekv] at u2
    rcases kc with ⟨_, hn⟩ | ⟨xs, hn, hx⟩
    · cases hn
    · obtain ⟨a, w, rfl, _, dg, clo⟩ := dict_foc hts u2 rk kok hn len
      obtain ⟨mA, mr, c1, c2, c3⟩ := clo _ _ Ext.refl fun _ q => q
      obtain ⟨a', vl, _, rfl, hH, _, _⟩ := c1.own_inv
      have stw := st1.drop (m1 := fun b => n2 b + n1 b) fun b => by have := u4 b; (try simp only); omega
      exact ⟨a, _, rfl, dg, sd_end (nw := false) he hi hst hs g1 u3 stw.ok (fun b e => by cases e; exact ⟨vl, hH⟩) ⟨a', rfl⟩ stw clo hx ekv (fun y => by simp [sdv, hn]) h⟩
end En

set_option Elab.async false
set_option linter.all false
set_option autoImplicit false
set_option maxRecDepth 100000
set_option maxHeartbeats 1000000
namespace En
open PySem PySem.Spec PyProof.Rows L2 RZ
variable {G : Gx} {lv : Nat} {F : FI} {c : Cg} {sc : Scope} {Γ Γ' Γ1 Γ2 Γb : TyEnv} {x : Expr} {τ τ' t : Ty} {W : WX} {X : Cx} {i n : Nat}

/-! ## statements against the text -/
structure GoodS (G : Gx) (lv : Nat) (W : WX) (sc : Scope) (X : Cx) : Prop extends Good G lv W sc X where
  fn : ∀ x, X.fn x = true
  po : PassesOwn (model X.prog X.w) X.A X.env X.xe
  stk : X.stack = X.env :: X.outer
  frm : X.env.frame = some X.env.locals
/-! ### paths -/
def mkPath : Expr → List (Expr × Pos) → Expr
  | e, [] => e
  | e, (k, p) :: r => mkPath (.Subscript e k p) r
theorem mkPath_snoc : ∀ (l : List (Expr × Pos)) (e k : Expr) (p : Pos), mkPath e (l ++ [(k, p)]) = .Subscript (mkPath e l) k p
  | [], _, _, _ => rfl
  | (k', p') :: l, e, k, p => mkPath_snoc l (.Subscript e k' p') k p
theorem pathOf_inv : ∀ (e : Expr) {x : Str} {q : Pos} {l : List (Expr × Pos)}, pathOf e = some (x, q, l) → e = mkPath (.Name x q) l ∧ ∀ kp ∈ l, noSlice kp.1 = true := by
  intro e
  induction e using pathOf.induct with
  | case1 x p =>
    intro y q l h
    cases h
    exact ⟨rfl, fun _ h => by cases h⟩
  | case2 e k p x q ks he hk ih =>
    intro y q' l h
    rw [pathOf, he] at h
    simp only [hk, if_true, Option.some.injEq, Prod.mk.injEq] at h
    obtain ⟨rfl, rfl, rfl⟩ := h
    obtain ⟨h1, h2⟩ := ih he
    refine ⟨by rw [mkPath_snoc, ← h1], fun kp hm => ?_⟩
    rcases List.mem_append.mp hm with hm | hm
    · exact h2 _ hm
    · simp only [List.mem_singleton] at hm
      subst hm
      exact hk
  | case3 e k p x q ks he hk ih =>
    intro y q' l h
    rw [pathOf, he] at h
    simp [hk] at h
  | case4 e k p he ih =>
    intro y q' l h
    rw [pathOf, he] at h
    cases h
  | case5 e h1 h2 =>
    intro y q' l h
    rw [pathOf] at h
    · cases h
    · exact h1
    · exact h2
def ckKs (F : FI) : Es → Scope → TyEnv → List (Expr × Pos) → Bool
  | .nil, _, _, [] => true
  | .cons e es, sc, Γ, (x, _) :: xs => (match ckE F (stepE e).2 sc Γ x with
    | some (_, Γ') => decide (Γ' = Γ)
    | none => false) && ckKs F es sc Γ xs
  | _, _, _, _ => false
theorem step_ev (e : E) (ρ : Env) : ev c e ρ = (ev c (stepE e).2 ρ).bind fun k => .ok (stepD (stepE e).1 k) := by
  unfold stepE
  split
  · rename_i e'
    show ((ev c e' ρ).bind fun d => (Res.ok []).bind fun ds => Res.ok (d :: ds)).map PyData.tuple = _
    cases ev c e' ρ <;> rfl
  · cases ev c e ρ <;> rfl
theorem PthE.fn {n : List Bool} {tp : TE} {f g : Env → Res (List D)} (h : PthE G tp Γ i n f) (e : ∀ ρ, g ρ = f ρ) : PthE G tp Γ i n g := fun ρ σ H z m se ok ks e1 sh hg => h ρ σ H z m se ok ks (by rw [← e]; exact e1) sh hg
theorem pthT_pre : ∀ (a b : List Bool) {τ τ0 : Ty}, pthT (a ++ b) τ = some τ0 → ∃ τ1, pthT a τ = some τ1
  | [], b, τ, τ0, _ => ⟨τ, rfl⟩
  | false :: a, b, τ, τ0, h => pthT_pre a b (τ := τ) h
  | true :: a, b, τ, τ0, h => by
    cases τ with
    | I => simp [pthT] at h
    | N q t =>
      cases q <;> simp only [List.cons_append, pthT] at h
      · exact pthT_pre a b h
      · cases h
      · cases h
theorem path_ok (C : CallsOk G lv F c) (hi : Γ[i]? = some (some τ)) (hs : τ.st = true) : ∀ (p : Es) (l : List (Expr × Pos)) (e0 : Expr) (t0 : TE) (n : List Bool) (f0 : Env → Res (List D)) (τ0 : Ty), ckKs F p sc Γ l = true → (∀ kp ∈ l, noSlice kp.1 = true) → (∀ X, Good G lv W sc X → PE X e0 t0) → PthE G t0 Γ i n f0 → pthT (n ++ p.sh) τ = some τ0 →
    ∃ t, (∀ X, Good G lv W sc X → PE X (mkPath e0 l) t) ∧ PthE G t Γ i (n ++ p.sh) fun ρ => (f0 ρ).bind fun a => (evs c p ρ).bind fun b => .ok (a ++ b)
  | .nil, [], e0, t0, n, f0, τ0, _, _, h0, hp, _ => ⟨t0, h0, by
      have e : n ++ Es.sh .nil = n := List.append_nil n
      rw [e]
      exact hp.fn fun ρ => by
        show ((f0 ρ).bind fun a => Res.ok (a ++ [])) = f0 ρ
        cases f0 ρ with
        | ok a => rw [Res.bind_ok, List.append_nil]
        | ex _ => rfl
        | bad => rfl⟩
  | .nil, _ :: _, _, _, _, _, _, h, _, _, _, _ => by simp [ckKs] at h
  | .cons _ _, [], _, _, _, _, _, h, _, _, _, _ => by simp [ckKs] at h
  | .cons e es, (k, p) :: l, e0, t0, n, f0, τ0, h, hn, h0, hp, ht => by
    simp only [ckKs, Bool.and_eq_true] at h
    obtain ⟨h1, h2⟩ := h
    cases e1 : ckE F (stepE e).2 sc Γ k with
    | none => rw [e1] at h1; cases h1
    | some v =>
      obtain ⟨τk, Γ'⟩ := v
      rw [e1] at h1
      have e2 : Γ' = Γ := of_decide_eq_true h1
      rw [e2] at e1
      obtain ⟨⟨tk, p1, ek⟩, _⟩ := ckE_ok C (stepE e).2 sc Γ Γ k τk W e1
      have hl : n ++ (Es.cons e es).sh = (n ++ [(stepE e).1]) ++ es.sh := by
        show n ++ ((stepE e).1 :: es.sh) = _
        rw [List.append_assoc]
        rfl
      rw [hl] at ht ⊢
      obtain ⟨τ1, ht1⟩ := pthT_pre _ _ ht
      obtain ⟨t, q1, q2⟩ := path_ok C hi hs es l (.Subscript e0 k p) _ (n ++ [(stepE e).1]) _ τ0 h2 (fun kp hm => hn kp (List.mem_cons_of_mem _ hm)) (fun X g => by
        have := pe_ix (pos := p) (ix_step (X := X) (stepE e).1) (h0 X g) (p1 X g).1 (ix_of (hn (k, p) List.mem_cons_self))
        rw [g.K] at this
        exact this) (hp.step ek hi ht1 hs) ht
      refine ⟨t, q1, q2.fn fun ρ => ?_⟩
      show ((f0 ρ).bind fun a => ((ev c e ρ).bind fun d => (evs c es ρ).bind fun ds => Res.ok (d :: ds)).bind fun b => Res.ok (a ++ b)) = _
      rw [step_ev e ρ]
      cases f0 ρ with
      | ok a =>
        simp only [Res.bind_ok]
        cases ev c (stepE e).2 ρ with
        | ok d =>
          simp only [Res.bind_ok]
          cases evs c es ρ with
          | ok ds => simp only [Res.bind_ok, List.append_assoc, List.singleton_append]
          | ex _ => rfl
          | bad => rfl
        | ex _ => rfl
        | bad => rfl
      | ex _ => rfl
      | bad => rfl
end En

set_option Elab.async false
set_option linter.all false
set_option autoImplicit false
set_option maxRecDepth 100000
set_option maxHeartbeats 1000000
namespace En
open PySem PySem.Spec PyProof.Rows L2 RZ
/-! ## slots that a statement does not set -/
/-- the same ends where slot p holds o -/
structure EqE (p : Nat) (o : Option (Option V)) (D D2 : Ends) : Prop where
  nx : ∀ (σ : L2.St) (H : Hp), σ[p]? = o → (D.nx σ H ↔ D2.nx σ H)
  bk : ∀ (σ : L2.St) (H : Hp), σ[p]? = o → (D.bk σ H ↔ D2.bk σ H)
  ct : ∀ (σ : L2.St) (H : Hp), σ[p]? = o → (D.ct σ H ↔ D2.ct σ H)
  rt : D.rt = D2.rt
theorem EqE.symm {p : Nat} {o : Option (Option V)} {D D2 : Ends} (h : EqE p o D D2) : EqE p o D2 D := ⟨fun σ H e => (h.nx σ H e).symm, fun σ H e => (h.bk σ H e).symm, fun σ H e => (h.ct σ H e).symm, h.rt.symm⟩
def Frm (p : Nat) (t : TS) : Prop := ∀ (o : Option (Option V)) (D D2 : Ends), EqE p o D D2 → ∀ (σ : L2.St) (H : Hp), σ[p]? = o → (t D σ H → t D2 σ H)
theorem Frm.iff {p : Nat} {t : TS} (h : Frm p t) {o : Option (Option V)} {D D2 : Ends} (e : EqE p o D D2) {σ : L2.St} {H : Hp} (q : σ[p]? = o) : t D σ H ↔ t D2 σ H := ⟨h o D D2 e σ H q, h o D2 D e.symm σ H q⟩
def FrG (p : Nat) (g : TG) : Prop := ∀ (o : Option (Option V)) (Q Q2 : L2.St → Hp → Prop), (∀ (σ : L2.St) (H : Hp), σ[p]? = o → (Q σ H ↔ Q2 σ H)) → ∀ (v : V) (σ : L2.St) (H : Hp), σ[p]? = o → (g v σ H Q ↔ g v σ H Q2)
variable {p : Nat} {t u : TS} {te : TE} {g : TG} {tt : TT}
theorem te_eq {σ : L2.St} {H : Hp} {Q Q2 : VK} (h : ∀ v H', Q v H' ↔ Q2 v H') : te σ H Q ↔ te σ H Q2 := by
  have : Q = Q2 := funext fun v => funext fun H' => propext (h v H')
  rw [this]
theorem tt_eq {σ : L2.St} {H : Hp} {Q Q2 : Bool → Hp → Prop} (h : ∀ b H', Q b H' ↔ Q2 b H') : tt σ H Q ↔ tt σ H Q2 := by
  have : Q = Q2 := funext fun v => funext fun H' => propext (h v H')
  rw [this]
theorem ti_eq {wi : TI} {σ : L2.St} {H : Hp} {Q Q2 : L2.It → Hp → Prop} (h : ∀ b H', Q b H' ↔ Q2 b H') : wi σ H Q ↔ wi σ H Q2 := by
  have : Q = Q2 := funext fun v => funext fun H' => propext (h v H')
  rw [this]
theorem FrG.name {i : Nat} (h : i ≠ p) : FrG p (gName i) := by
  intro o Q Q2 e v σ H q
  refine e _ _ ?_
  rw [List.getElem?_set_ne h]
  exact q
theorem Frm.asg (h : FrG p g) : Frm p (tAsg te g) := by
  intro o D D2 e σ H q
  exact (te_eq fun v H' => h o _ _ e.nx v σ H' q).mp
theorem Frm.next : Frm p tNext := fun o D D2 e σ H q => (e.nx σ H q).mp
theorem Frm.seq (h : Frm p t) (k : Frm p u) : Frm p (tSeq t u) := by
  intro o D D2 e σ H q
  exact h o { D with nx := u D } { D2 with nx := u D2 } ⟨fun σ' H' q' => k.iff e q', e.bk, e.ct, e.rt⟩ σ H q
theorem Frm.ifS (h : Frm p t) (k : Frm p u) : Frm p (tIfS tt t u) := by
  intro o D D2 e σ H q
  refine (tt_eq fun b H' => ?_).mp
  cases b with
  | true => simpa using h.iff e q
  | false => simpa using k.iff e q
theorem Frm.ret : Frm p (tRet te) := by
  intro o D D2 e σ H q
  show te σ H D.rt → te σ H D2.rt
  rw [e.rt]
  exact id
theorem Frm.drop : Frm p (tDrop te) := by
  intro o D D2 e σ H q
  exact (te_eq fun v H' => e.nx σ H' q).mp
theorem Frm.brk : Frm p tBreak := fun o D D2 e σ H q => (e.bk σ H q).mp
theorem EqE.turn {o : Option (Option V)} {D D2 : Ends} (e : EqE p o D D2) (N : L2.St → Hp → Prop) : EqE p o { D with nx := N, ct := N, bk := D.nx } { D2 with nx := fun σ' H' => N σ' H' ∧ σ'[p]? = o, ct := fun σ' H' => N σ' H' ∧ σ'[p]? = o, bk := D2.nx } :=
  ⟨fun σ' H' q' => ⟨fun z => ⟨z, q'⟩, fun z => z.1⟩, e.nx, fun σ' H' q' => ⟨fun z => ⟨z, q'⟩, fun z => z.1⟩, e.rt⟩
theorem EqE.same {o : Option (Option V)} {D D2 : Ends} (e : EqE p o D D2) (N : L2.St → Hp → Prop) : EqE p o { D with nx := N, ct := N, bk := D.nx } { D2 with nx := N, ct := N, bk := D2.nx } :=
  ⟨fun σ' H' q' => Iff.rfl, e.nx, fun σ' H' q' => Iff.rfl, e.rt⟩
theorem Frm.whileS (h : Frm p t) : Frm p (tWhile tt t) := by
  intro o D D2 e σ H q
  rintro ⟨W, ⟨m, w⟩, turn⟩
  refine ⟨fun m σ H => W m σ H ∧ σ[p]? = o, ⟨m, w, q⟩, fun m σ H hw => ?_⟩
  refine (tt_eq fun b H1 => ?_).mp (turn m σ H hw.1)
  cases b with
  | false => simpa using e.nx σ H1 hw.2
  | true =>
    simp only [if_true]
    constructor
    · rintro ⟨N, hN, q1⟩
      exact ⟨fun σ' H' => N σ' H' ∧ σ'[p]? = o, fun σ' H' k => (hN σ' H' k.1).imp fun m' z => ⟨z.1, z.2, k.2⟩, h o _ _ (e.turn N) σ H1 hw.2 q1⟩
    · rintro ⟨N, hN, q1⟩
      exact ⟨N, fun σ' H' k => (hN σ' H' k).imp fun m' z => ⟨z.1, z.2.1⟩, h o _ _ (e.symm.same N) σ H1 hw.2 q1⟩
theorem Frm.forS {wi : TI} (hg : FrG p g) (h : Frm p t) : Frm p (tFor wi g t) := by
  have key : ∀ (o : Option (Option V)) (D D2 : Ends), EqE p o D D2 → ∀ (σ : L2.St) (H1 : Hp), σ[p]? = o → ∀ J : L2.It,
      (∃ W : Nat → Nat → L2.St → Hp → Prop, (∃ m, W 0 m σ H1) ∧ ∀ i m σ H, W i m σ H → (J.stop i H ∧ D.nx σ H) ∨ (J.go i H ∧ ∃ N : L2.St → Hp → Prop, (∀ σ' H', N σ' H' → ∃ m', m' < m ∧ W (i + 1) m' σ' H') ∧ ∀ x H', J.yld i H x H' → g x σ H' fun σ2 H2 => t { D with nx := N, ct := N, bk := D.nx } σ2 H2)) →
      (∃ W : Nat → Nat → L2.St → Hp → Prop, (∃ m, W 0 m σ H1) ∧ ∀ i m σ H, W i m σ H → (J.stop i H ∧ D2.nx σ H) ∨ (J.go i H ∧ ∃ N : L2.St → Hp → Prop, (∀ σ' H', N σ' H' → ∃ m', m' < m ∧ W (i + 1) m' σ' H') ∧ ∀ x H', J.yld i H x H' → g x σ H' fun σ2 H2 => t { D2 with nx := N, ct := N, bk := D2.nx } σ2 H2)) := by
    intro o D D2 e σ H1 q J
    rintro ⟨W, ⟨m, w⟩, turn⟩
    refine ⟨fun i m σ H => W i m σ H ∧ σ[p]? = o, ⟨m, w, q⟩, fun i m σ H hw => ?_⟩
    rcases turn i m σ H hw.1 with ⟨z1, z2⟩ | ⟨z1, N, hN, z2⟩
    · exact .inl ⟨z1, (e.nx σ H hw.2).mp z2⟩
    · refine .inr ⟨z1, fun σ' H' => N σ' H' ∧ σ'[p]? = o, fun σ' H' k => (hN σ' H' k.1).imp fun m' z => ⟨z.1, z.2, k.2⟩, fun x H' y => ?_⟩
      refine (hg o _ _ (fun σ2 H2 q2 => ?_) x σ H' hw.2).mp (z2 x H' y)
      exact h.iff (e.turn N) q2
  intro o D D2 e σ H q
  exact (ti_eq fun J H1 => ⟨key o D D2 e σ H1 q J, key o D2 D e.symm σ H1 q J⟩).mp
mutual
/-- statements that keep slot p as it is, without a return -/
def frS (p : Nat) : S → Bool
  | .set (.s i) _ => i != p
  | .mu .. => true
  | .expr _ => true
  | .brk => true
  | .unr => true
  | .ite _ a b _ => frB p a && frB p b
  | .for _ (.s i) b _ => i != p && frB p b
  | .while _ _ b _ => frB p b
  | .ret _ => true
  | .callM .. => true
  | _ => false
def frB (p : Nat) : B → Bool
  | .nil => true
  | .cons s b => frS p s && frB p b
end
end En

set_option Elab.async false
set_option linter.all false
set_option autoImplicit false
set_option maxRecDepth 100000
set_option maxHeartbeats 1000000
namespace En
open PySem PySem.Spec PyProof.Rows L2 RZ
variable {G : Gx} {lv : Nat} {F : FI} {c : Cg} {sc : Scope} {W : WX} {H H' H'' : Hp} {z z' z'' : Addr → Prop} {τ τ' : Ty} {d : D} {v : V} {ds : List D} {vs : List V} {m m' m1 m2 m0 : Ow} {Γ Γ' Γ1 Γ2 Γb : TyEnv} {ρ ρ' : Env} {σ σ' : L2.St} {τs ts : List Ty} {τr : Ty} {i p : Nat}
/-! ## a def that changes one of its parameters -/
/-- what is owned all through does not ask what is frozen -/
theorem RL.ownz (h : RL G.F H z τ ds vs m) (ho : τ.own = true) (z' : Addr → Prop) : RL G.F H z' τ ds vs m := by
  induction h with
  | nil e => exact .nil e
  | cons a b c q ih1 ih2 =>
    cases a with
    | non h => exact .cons (.non h) (ih1 ho) (ih2 ho) q
    | bl h => exact .cons (.bl h) (ih1 ho) (ih2 ho) q
    | int h => exact .cons (.int h) (ih1 ho) (ih2 ho) q
    | str h => exact .cons (.str h) (ih1 ho) (ih2 ho) q
    | tup h e => exact .cons (.tup h e) (ih1 ho) (ih2 ho) q
    | @lst q' t a' ds' vs' m' h =>
      cases q' with
      | o => exact .cons (.lst h) (ih1 ho) (ih2 ho) q
      | _ => cases ho
    | @dk q' t a' ds' m' hk n l h =>
      cases q' with
      | o => exact .cons (.dk n l h) (ih1 ho) (ih2 ho) q
      | _ => cases ho
    | @dt q' t a' ds' m' ks xs n k l h =>
      cases q' with
      | o => exact .cons (.dt n k l h) (ih1 ho) (ih2 ho) q
      | _ => cases ho
/-- all that lives, but what m1 owns, is frozen for a time -/
theorem RL.handM (h : RL G.F H z τ ds vs m) (hs : τ.st = true) (zl : ∀ a, z a → H a ≠ none ∧ m1 a = 0) (dj : ∀ a, 1 ≤ m a → m1 a = 0) : RL G.F H (fun a => H a ≠ none ∧ m1 a = 0) (fzT τ) ds vs fun _ => 0 := by
  induction h with
  | nil e => exact .nil fun _ => rfl
  | cons a b c q ih1 ih2 =>
    rename_i mm mm0 mm1 mm2
    have rz : ∀ {a : Addr} {o : HO}, Rd H a o → H a ≠ none := fun {a o} h => by
      rcases h with h | ⟨_, h⟩ <;> rw [h] <;> simp
    have box : ∀ {q : Md} {a : Addr} {o : HO} {w : Prop}, q ≠ .r → Box G.K H z a o w q mm0 → Box G.K H (fun a => H a ≠ none ∧ m1 a = 0) a o w .f fun _ => 0 := by
      intro q' a o w hq hb
      cases q' with
      | o =>
        refine ⟨.inl ⟨.inl hb.1, rz (.inl hb.1), dj a ?_⟩, fun _ => rfl⟩
        have := hb.2 a
        have h1 : one a a = 1 := by simp [one]
        have := q a
        omega
      | f => exact ⟨hb.1.imp (fun q => ⟨q.1, zl _ q.2⟩) id, fun _ => rfl⟩
      | r => exact absurd rfl hq
    have k1 := ih1 (a.st hs) fun x hx => dj x (by have := q x; omega)
    have k2 := ih2 hs fun x hx => dj x (by have := q x; omega)
    refine RL.cons (m0 := fun _ => 0) (m1 := fun _ => 0) (m2 := fun _ => 0) (τ' := fzT _) ?_ k1 k2 fun _ => rfl
    cases a with
    | non h => exact .non fun _ => rfl
    | bl h => exact .bl fun _ => rfl
    | int h => exact .int fun _ => rfl
    | str h => exact .str fun _ => rfl
    | tup h e => exact .tup h fun _ => rfl
    | lst h => exact .lst (box (Ty.st_inv hs).1 h)
    | dk n l h => exact .dk n l (box (Ty.st_inv hs).1 h)
    | dt n k l h => exact .dt n k l (box (Ty.st_inv hs).1 h)
/-- the other slots as a call reads them -/
def roT (i : Nat) (Γ : TyEnv) : TyEnv := (Γ.set i none).map (Option.map fzT)
theorem SE.handM {m1 : Ow} : ∀ {Γ : TyEnv} {ρ : List D} {σ : L2.St} {m : Ow}, SE G.F H z Γ ρ σ m → TyEnv.st Γ = true → (∀ a, z a → H a ≠ none ∧ m1 a = 0) → (∀ a, 1 ≤ m a → m1 a = 0) → SE G.F H (fun a => H a ≠ none ∧ m1 a = 0) (Γ.map (Option.map fzT)) ρ σ fun _ => 0
  | _, _, _, _, .nil q, _, _, _ => .nil fun _ => rfl
  | _, _, _, _, .no a, hs, zl, dj => by
    simp only [TyEnv.st, List.all_cons, Bool.and_eq_true] at hs
    exact .no (SE.handM a hs.2 zl dj)
  | _, _, _, _, .yes a b q, hs, zl, dj => by
    simp only [TyEnv.st, List.all_cons, Bool.and_eq_true] at hs
    exact .yes (m1 := fun _ => 0) (m2 := fun _ => 0) (RL.handM a hs.1 zl fun x hx => dj x (by have := q x; omega)) (SE.handM b hs.2 zl fun x hx => dj x (by have := q x; omega)) fun _ => rfl
theorem RA.no0 : ∀ {ts : List Ty} {ds : List D} {vs : List V} {m : Ow}, RA G.F H z ts ds vs m → (ts.all fun t => t.no) = true → ∀ b, m b = 0
  | _, _, _, _, .nil q, _, b => q b
  | _, _, _, _, .cons a c q, h, b => by
    rw [List.all_cons, Bool.and_eq_true] at h
    have := q b
    have := RL.no a h.1 b
    have := RA.no0 c h.2 b
    omega
/-- the arguments, the changed one among them -/
def EvM (G : Gx) (W : WX) (ta : TA) (p i : Nat) (Γ : TyEnv) (τs : List Ty) (f : Env → Res (List D)) : Prop :=
  ∀ (ρ : Env) (σ : L2.St) (H : Hp) (z : Addr → Prop) (m : Ow), SE G.F H z Γ ρ σ m → Ok H z m → ∀ v0 : V, σ[i]? = some (some v0) → ∀ Q : List V → Hp → Prop,
    (f ρ).post (fun ds => ∀ (vs : List V) (H' : Hp) (z' : Addr → Prop) (m1 mv : Ow), SE G.F H' z' Γ ρ σ m1 → RA G.F H' z' τs ds vs mv → Stp H z m H' z' (fun a => m1 a + mv a) → Ext H H' → Q (ins p v0 vs) H') (XOk G W σ H) → ta σ H Q
theorem EvM.zero {ta : TA} {f : Env → Res (List D)} (h : EvA G W ta Γ Γ τs f) : EvM G W (tCons (tVar i) ta) 0 i Γ τs f := by
  intro ρ σ H z m se ok v0 hv Q q
  refine ⟨v0, hv, ?_⟩
  exact h ρ σ H z m se ok _ q
theorem EvM.succ {te : TE} {ta : TA} {f : Env → Res D} {g : Env → Res (List D)} (he : EvE G W te Γ Γ τ f) (h : EvM G W ta p i Γ τs g) : EvM G W (tCons te ta) (p + 1) i Γ (τ :: τs) fun ρ => (f ρ).bind fun d => (g ρ).bind fun ds => .ok (d :: ds) := by
  intro ρ σ H z m se ok v0 hv Q h1
  rw [Res.post_bind] at h1
  refine he ρ σ H z m se ok _ (Res.post_mono h1 (fun d h1 v H1 z1 m1 mv se1 r1 st1 ex1 => ?_) fun _ h => h)
  rw [Res.post_bind] at h1
  refine h ρ σ H1 z1 m1 se1 (st1.ok.drop fun b => Nat.le_add_right _ _) v0 hv _ (Res.post_mono h1 (fun ds h1 vs H2 z2 m2 mw se2 r2 st2 ex2 => ?_) fun _ h => h.ext ex1)
  have st3 := st2.frame st1.ok
  exact h1 (v :: vs) H2 z2 m2 (fun a => mv a + mw a) se2 (.cons (r1.ext ex2 st2.zz) r2 fun _ => rfl) ((st1.trans st3).eqm (fun _ => rfl) fun b => by omega) (ex1.trans ex2)
theorem EvM.fn {ta : TA} {f g : Env → Res (List D)} (h : EvM G W ta p i Γ τs f) (e : ∀ ρ, g ρ = f ρ) : EvM G W ta p i Γ τs g := fun ρ σ H z m se ok v0 hv Q q => h ρ σ H z m se ok v0 hv Q (by rw [← e]; exact q)
theorem EvS.fnM {a : Bool} {tt : TS} {f g : Env → Fl} (h : EvS G W a tt Γ Γ' Γb τr f) (e : ∀ ρ, g ρ = f ρ) : EvS G W a tt Γ Γ' Γb τr g := fun ρ σ H z m se ok Dn q => h ρ σ H z m se ok Dn (by rw [← e]; exact q)
theorem EvS.callM {ta : TA} {fa : Env → Res (List D)} {fn : Fun} (ha : EvM G W ta p i (roT i Γ) τs fa) (hi : Γ[i]? = some (some τ)) (hown : τ.own = true) (hst : TyEnv.st Γ = true)
    (hs : ((τs.zip ts).all fun p => En.sub p.1 p.2) = true) (hl : τs.length = ts.length) (hn : (ts.all fun t => t.no) = true) :
    EvS G W true (tDrop (tCallSD (spM G p τ ts fn) [] (WE W) ta)) Γ Γ Γb τr fun ρ => (fa ρ).noex.fl fun ds => (fn (ins p (ρ.getD i .none) ds)).noex.fl fun d => .nx (ρ.set i d) := by
  intro ρ σ H z m se ok Dn h
  dsimp only at h
  obtain ⟨v, m1, m2, g1, g2, g3, g4⟩ := se.get hi
  have hst2 : TyEnv.st (Γ.set i none) = true := TyEnv.st_none i hst
  have zl : ∀ a, z a → H a ≠ none ∧ m1 a = 0 := fun a za => by
    have o := ok a
    refine ⟨o.2.2 za, ?_⟩
    by_cases hm : m a = 1
    · exact absurd za (o.2.1 hm).1
    · have := g4 a; omega
  have dj : ∀ a, 1 ≤ m2 a → m1 a = 0 := fun a h2 => by have := g4 a; have := (ok a).1; omega
  have seR := SE.handM (m1 := m1) g3 hst2 zl dj
  have okR : Ok H (fun a => H a ≠ none ∧ m1 a = 0) fun _ => 0 := fun a => ⟨Nat.zero_le _, fun e => absurd (show (0 : Nat) = 1 from e) (by decide), fun q => q.1⟩
  cases e1 : fa ρ with
  | bad => rw [e1] at h; exact h.elim
  | ex _ => rw [e1] at h; exact h.elim
  | ok ds =>
  rw [e1, Res.noex_ok, Res.fl_ok] at h
  refine ha ρ σ H _ _ seR okR v g1 _ ?_
  rw [e1]
  intro vs H1 z1 n1 mv se1 ra st1 ex1
  show spM G p τ ts fn (ins p v vs ++ []) H1 _ _
  rw [List.append_nil]
  -- the arguments as they are wanted
  obtain ⟨z2, mv', ra2, st2⟩ := ra.coz_step hs hl (st1.ok.drop fun b => Nat.le_add_left _ _)
  have mv0 := ra2.no0 hn
  have ra3 := ra2.eqm (m' := fun _ => 0) fun b => (mv0 b).symm
  have zz2 : ∀ a, (H a ≠ none ∧ m1 a = 0) → z2 a := fun a q => st2.zz a (st1.zz a q)
  have nz2 : ∀ a, 1 ≤ m1 a → ¬ z2 a := fun a q zq => by
    have mu := ((ok a).2.1 (by have := g4 a; have := (ok a).1; omega)).2
    have hH : H a ≠ none := by intro e; rw [e] at mu; exact mu
    have d2 := st2.dec a (st1.live a hH)
    have d1 := st1.dec a hH
    rcases d2.2 zq with k | ⟨k, _⟩
    · rcases d1.2 k with k | ⟨k, _⟩
      · omega
      · exact absurd k (by decide)
    · have := d1.1
      omega
  have z12 : ∀ a, z a → z2 a := fun a q => zz2 a (zl a q)
  have rv : Rp G.F H1 z2 τ (ρ.getD i .none) v m1 := g2.ext ex1 z12
  have ok1 : Ok H1 z2 m1 := fun a => by
    have o := ok a
    have := g4 a
    refine ⟨by omega, fun q => ⟨nz2 a (by omega), ?_⟩, fun q => (st2.ok a).2.2 q⟩
    have mu := (o.2.1 (by omega)).2
    cases e : H a with
    | none => rw [e] at mu; exact absurd mu (fun q => q)
    | some o => rw [ex1 a o e]; rw [e] at mu; exact mu
  refine ⟨ds, ρ.getD i .none, v, vs, z2, m1, rfl, ra3, rv, ok1, ?_⟩
  cases e2 : fn (ins p (ρ.getD i .none) ds) with
  | bad => rw [e2] at h; exact h.elim
  | ex _ => rw [e2] at h; exact h.elim
  | ok d =>
  rw [e2, Res.noex_ok, Res.fl_ok] at h
  intro H' z' m' rp st
  -- what is known behind the call
  have st3 : Stp H z m1 H' (fun a => z a ∨ (z' a ∧ (H a = none ∨ 1 ≤ m1 a))) m' := by
    refine ⟨fun a o e q => st.keep a o (ex1 a o e) q, fun a q => st.live a (fun e => ?_), fun a q => .inl q, fun a q => ⟨(st.dec a fun e => ?_).1, fun zq => ?_⟩, fun a => ?_⟩
    · cases e2 : H a with
      | none => exact q e2
      | some o => rw [ex1 a o e2] at e; cases e
    · cases e2 : H a with
      | none => exact q e2
      | some o => rw [ex1 a o e2] at e; cases e
    · rcases zq with zq | ⟨zq, k | k⟩
      · exact .inl zq
      · exact absurd k q
      · refine .inr ⟨k, ?_⟩
        have o := st.ok a
        by_cases hm : m' a = 1
        · exact absurd zq (o.2.1 hm).1
        · have := o.1; omega
    · have o := st.ok a
      refine ⟨o.1, fun q => ⟨fun zq => ?_, (o.2.1 q).2⟩, fun zq => ?_⟩
      · rcases zq with zq | ⟨zq, _⟩
        · exact (o.2.1 q).1 (st.zz a (z12 a zq))
        · exact (o.2.1 q).1 zq
      · rcases zq with zq | ⟨zq, _⟩
        · exact o.2.2 (st.zz a (z12 a zq))
        · exact o.2.2 zq
  have ok2 : Ok H z fun a => m1 a + m2 a := ok.eqm fun b => (g4 b).symm
  have se3 := g3.beside hst2 st3 ok2
  have st4 := st3.frame ok2
  have il : i < (Γ.set i none).length := by
    rw [List.length_set]
    exact (List.getElem?_eq_some_iff.1 hi).1
  obtain ⟨m3, se4, l4⟩ := se3.put i il (RL.ownz rp hown _)
  rw [List.set_set, set_back hi, set_back g1] at se4
  refine h σ H' _ _ se4 ((st4.eqm g4 fun _ => rfl).drop fun b => ?_)
  have := l4 b
  omega
/-! ### its check -/
def ckM (F : FI) (i : Nat) : Nat → Es → Scope → TyEnv → List Expr → Option (List Ty)
  | 0, es, sc, Γ, x0 :: xs => match x0 with
    | .Name y _ => if slotB F.N sc i y = true then (match ckEs F es sc Γ xs with
      | some (τs, Γ1) => if Γ1 = Γ then some τs else none
      | none => none) else none
    | _ => none
  | p + 1, es0, sc, Γ, x :: xs => match es0 with
    | .cons e es => if noStar x = true then (match ckE F e sc Γ x with
      | some (t, Γ1) => if Γ1 = Γ then (ckM F i p es sc Γ xs).map (t :: ·) else none
      | none => none) else none
    | _ => none
  | _, _, _, _, _ => none
theorem ckM_ok (C : CallsOk G lv F c) {i : Nat} : ∀ (p : Nat) (es : Es) (sc : Scope) (Γ : TyEnv) (xs : List Expr) (τs : List Ty) (W : WX), ckM F i p es sc Γ xs = some τs → ∃ ts : List TE, (∀ X, Good G lv W sc X → PEs X xs ts) ∧ EvM G W (tL ts) p i Γ τs (evs c es)
  | 0, es, sc, Γ, xs, τs, W, h => by
    unfold ckM at h
    split at h <;> first | (cases h; done) | (exact absurd ‹0 = _ + 1› (by omega)) | skip
    split at h <;> first | (cases h; done) | skip
    split at h <;> first | (cases h; done) | skip
    rename_i y q k1
    split at h <;> first | (cases h; done) | skip
    rename_i τs' Γ1 e1
    split at h <;> first | (cases h; done) | skip
    rename_i k2
    cases h
    subst k2
    obtain ⟨ts, h1, h2⟩ := ckEs_ok C _ _ _ _ _ _ W e1
    exact ⟨tVar i :: ts, fun X g => .cons rfl (var_pe C k1 X g) (h1 X g), EvM.zero h2⟩
  | p + 1, es0, sc, Γ, xs, τs, W, h => by
    unfold ckM at h
    split at h <;> first | (cases h; done) | skip
    · cases ‹p + 1 = 0›
    rename_i p' x xs hp
    cases hp
    split at h <;> first | (cases h; done) | skip
    rename_i e es
    split at h <;> first | (cases h; done) | skip
    rename_i k1
    split at h <;> first | (cases h; done) | skip
    rename_i t Γ1 e1
    split at h <;> first | (cases h; done) | skip
    rename_i k2
    subst k2
    obtain ⟨τs', e2, rfl⟩ := Option.map_eq_some_iff.mp h
    obtain ⟨⟨te, p1, ee⟩, _⟩ := ckE_ok C e _ _ _ x t W e1
    obtain ⟨ts, h1, h2⟩ := ckM_ok C p es _ _ xs τs' W e2
    exact ⟨te :: ts, fun X g => .cons k1 (p1 X g).1 (h1 X g), (EvM.succ ee h2).fn fun ρ => rfl⟩
def ckCM (F : FI) (j p i : Nat) (es : Es) (sc : Scope) (Γ : TyEnv) : Stmt → Option TyEnv
  | .Expr (.Call (.Name y _) xs [] _) _ => match F.ms[j]? with
    | some (x, p', τ, ts) => match ckM F i p es sc (roT i Γ) xs with
      | some τs => if y = x ∧ p' = p ∧ glB sc y = true ∧ dbg y = false ∧ Γ[i]? = some (some τ) ∧ τ.own = true ∧ TyEnv.st Γ = true ∧ ((τs.zip ts).all fun p => sub p.1 p.2) = true ∧ τs.length = ts.length ∧ (ts.all fun t => t.no) = true then some Γ else none
      | none => none
    | none => none
  | _ => none
theorem ckCM_ok (C : CallsOk G lv F c) {j : Nat} {es : Es} {st : Stmt} (h : ckCM F j p i es sc Γ st = some Γ1) : ∃ ts, (∀ X, GoodS G lv W sc X → PS X st ts) ∧ EvS G W true ts Γ Γ1 Γb τr (exec c (.callM j p i es)) ∧ ∀ q, Frm q ts := by
  unfold ckCM at h
  split at h <;> first | (cases h; done) | skip
  rename_i y yp xs cp sp
  split at h <;> first | (cases h; done) | skip
  rename_i x p' τ ts e1
  split at h <;> first | (cases h; done) | skip
  rename_i τs e2
  split at h <;> first | (cases h; done) | skip
  rename_i k
  cases h
  obtain ⟨rfl, rfl, k1, k2, k3, k4, k5, k6, k7, k8⟩ := k
  obtain ⟨tl, h1, h2⟩ := ckM_ok C _ es _ _ xs τs W e2
  obtain ⟨fn, f, fd, k', ps, c1, c2, c3, c4, c5, c6⟩ := C.chg j _ _ _ _ e1
  refine ⟨tDrop (tCallSD (spM G _ τ ts fn) [] (WE W) (tL tl)), fun X g => ?_, EvS.fnM (EvS.callM h2 k3 k4 k5 k6 k7 k8) fun ρ => ?_, fun q => Frm.drop⟩
  · have := g.gx
    subst this
    exact ps_expr (call_pe c5 (g.room.mono c4) (g.gl k1) c2 c3 c6 .nil (fun σ => passAt g.tk σ) k2 (h1 X g.toGood)) rfl
  · show ((evs c es ρ).noex.fl fun ds => (callD c.ms j (ins _ (ρ.getD i .none) ds)).noex.fl fun d => .nx (ρ.set i d)) = _
    unfold callD
    rw [c1]
end En

set_option Elab.async false
set_option linter.all false
set_option autoImplicit false
set_option maxRecDepth 100000
set_option maxHeartbeats 1000000
namespace En
open PySem PySem.Spec PyProof.Rows L2 RZ
/-! ## an own list walked, while its slot stays -/
theorem RL.I0 {F : Fx} {H : Hp} {z : Addr → Prop} {τ : Ty} {ds : List D} {vs : List V} {m : Ow} (h : RL F H z τ ds vs m) : τ = .I → ∀ b, m b = 0 := by
  induction h with
  | nil e => exact fun _ => e
  | cons a b c q ih1 ih2 =>
    intro ht
    subst ht
    have h2 := ih2 rfl
    cases a with
    | non h => exact fun b => by rw [q b, h b, ih1 rfl b, h2 b]
    | bl h => exact fun b => by rw [q b, h b, ih1 rfl b, h2 b]
    | int h => exact fun b => by rw [q b, h b, ih1 rfl b, h2 b]
    | str h => exact fun b => by rw [q b, h b, ih1 rfl b, h2 b]
    | tup h e => exact fun b => by rw [q b, e b, ih1 rfl b, h2 b]
section
variable {G : Gx} {W : WX} {Γ Γl Γe Γk Γb : TyEnv} {τr : Ty}
theorem EvS.forO {g : TG} {tb : TS} {tg : Tg} {fb : Env → Fl} {cl : List Nat} {i : Nat} (N0 : Env → Nat)
    (hi : Γl[i]? = some (some (.N .o .I))) (ht : i ∉ tg.slots) (hg : EvG G g tg Γl .I) (hb : EvS G W false tb (tg.ty .I Γl) Γe Γk τr fb) (fr : Frm i tb) (el : leS Γl (clearT cl Γ) = true) (ee : leS Γl (clearT cl Γe) = true) (ek : leS Γl (clearT cl Γk) = true) :
    EvS G W false (tFor (iList G.K (tVar i)) g tb) Γ Γl Γb τr fun ρ => forOX fb tg cl i (N0 ρ) 0 (clear cl ρ) := by
  intro ρ σ H z m se ok Dn h
  dsimp only at h
  obtain ⟨m2, se2, l2⟩ := se.clear cl
  obtain ⟨z3, m3, se3, st3⟩ := se2.sub el (ok.drop l2)
  have stS : Stp H z m H z3 m3 := ((Stp.refl ok).drop l2).trans st3
  obtain ⟨v0, q1, q2, e0, r0, _, _⟩ := se3.get hi
  -- the list
  have lst : ∀ (n k : Nat) (ρc : Env) (σc : L2.St) (Hc : Hp) (zc : Addr → Prop) (mc : Ow), FlP G W false Γl Γb τr Dn σc Hc zc mc (forOX fb tg cl i n k ρc) → ∃ ds, ρc.getD i .none = .list ds := fun n k ρc σc Hc zc mc hC => by
    cases n <;> (unfold forOX at hC; cases e : ρc.getD i .none <;> first | (exact ⟨_, rfl⟩) | (rw [e] at hC; exact hC.elim))
  obtain ⟨ds0, ed0⟩ := lst _ _ _ σ H z m h
  rw [ed0] at r0
  obtain ⟨a, vs0, m5, rfl, ha0, rl0, _⟩ := Rp.own_inv r0
  refine ⟨.ref a, e0, a, rfl, ⟨vs0, .inl (.inl ha0)⟩, ?_⟩
  refine ⟨fun k j σc Hc => ∃ (n : Nat) (zc : Addr → Prop) (mc : Ow) (ρc : Env), j = n ∧ σc[i]? = some (some (.ref a)) ∧ SE G.F Hc zc Γl ρc σc mc ∧ Ok Hc zc mc ∧ FlP G W false Γl Γb τr Dn σc Hc zc mc (forOX fb tg cl i n k ρc),
    ⟨N0 ρ, N0 ρ, z3, m3, clear cl ρ, rfl, e0, se3, stS.ok, h.step stS⟩, ?_⟩
  rintro k j σc Hc ⟨n, zc, mc, ρc, rfl, es, seC, okC, hC⟩
  obtain ⟨ds, ed⟩ := lst _ _ _ _ _ _ _ hC
  obtain ⟨v1, q3, q4, e1, r1, _, _⟩ := seC.get hi
  rw [es] at e1
  cases e1
  rw [ed] at r1
  obtain ⟨a', vs, m6, ea, ha, rl, _⟩ := Rp.own_inv r1
  cases ea
  have sq : SqL G.K Hc a vs := .inl (.inl ha)
  have lv : vs.length = ds.length := rl.length.symm
  by_cases hlt : k < ds.length
  · have hd : ds[k]? = some ds[k] := List.getElem?_eq_getElem hlt
    cases j with
    | zero =>
      unfold forOX at hC
      simp only [ed] at hC
      rw [if_neg (by omega)] at hC
      exact hC.elim
    | succ j =>
      unfold forOX at hC
      simp only [ed, hd] at hC
      cases e : setTg tg ds[k] ρc with
      | none => rw [e] at hC; exact hC.elim
      | some ρ1 =>
        rw [e, Res.of_some, Res.fl_ok] at hC
        obtain ⟨vk, mk, evk, rk, _⟩ := RL.get rl hd
        refine .inr ⟨⟨vs, vk, sq, evk⟩, fun σn Hn => ∃ (zc : Addr → Prop) (mc : Ow) (ρc : Env), σn[i]? = some (some (.ref a)) ∧ SE G.F Hn zc Γl ρc σn mc ∧ Ok Hn zc mc ∧ FlP G W false Γl Γb τr Dn σn Hn zc mc (forOX fb tg cl i j (k + 1) ρc), fun σn Hn ⟨zc, mc, ρc, w⟩ => ⟨j, Nat.lt_succ_self j, j, zc, mc, ρc, rfl, w⟩, fun x H2 y => ?_⟩
        obtain ⟨rfl, yl⟩ := y
        have ex := yl vs sq
        rw [evk] at ex
        cases ex
        have mk0 := RL.I0 rk rfl
        refine hg _ vk ρc σc H2 zc mc mk seC rk ρ1 e _ fun σ2 m2 se2 l2 _ _ kp => ?_
        have es2 : σ2[i]? = some (some (.ref a)) := by rw [(kp i ht).1]; exact es
        have st2 : Stp H2 zc mc H2 zc m2 := (Stp.refl okC).drop fun b => by have := l2 b; have := mk0 b; omega
        have hC2 := hC.step (σ' := σ2) st2
        refine (fr.iff (D2 := { Dn with nx := fun σn Hn => ∃ (zc : Addr → Prop) (mc : Ow) (ρc : Env), SE G.F Hn zc Γl ρc σn mc ∧ Ok Hn zc mc ∧ FlP G W false Γl Γb τr Dn σn Hn zc mc (forOX fb tg cl i j (k + 1) ρc), ct := fun σn Hn => ∃ (zc : Addr → Prop) (mc : Ow) (ρc : Env), SE G.F Hn zc Γl ρc σn mc ∧ Ok Hn zc mc ∧ FlP G W false Γl Γb τr Dn σn Hn zc mc (forOX fb tg cl i j (k + 1) ρc), bk := Dn.nx }) ?_ es2).mpr ?_
        · have q : ∀ (σn : L2.St) (Hn : Hp), σn[i]? = some (some (.ref a)) → ((∃ (zc : Addr → Prop) (mc : Ow) (ρc : Env), σn[i]? = some (some (.ref a)) ∧ SE G.F Hn zc Γl ρc σn mc ∧ Ok Hn zc mc ∧ FlP G W false Γl Γb τr Dn σn Hn zc mc (forOX fb tg cl i j (k + 1) ρc)) ↔ (∃ (zc : Addr → Prop) (mc : Ow) (ρc : Env), SE G.F Hn zc Γl ρc σn mc ∧ Ok Hn zc mc ∧ FlP G W false Γl Γb τr Dn σn Hn zc mc (forOX fb tg cl i j (k + 1) ρc))) := fun σn Hn eq => ⟨fun ⟨zc, mc, ρc, _, w⟩ => ⟨zc, mc, ρc, w⟩, fun ⟨zc, mc, ρc, w⟩ => ⟨zc, mc, ρc, eq, w⟩⟩
          exact ⟨q, fun _ _ _ => Iff.rfl, q, rfl⟩
        · refine hb ρ1 σ2 H2 zc m2 se2 st2.ok _ (FlP.nocont hC2 ek fun ρ2 eb σ' H' z' m' se' st' => ?_)
          rw [eb] at hC2
          obtain ⟨m4, se4, l4⟩ := se'.clear cl
          obtain ⟨z5, m5, se5, st5⟩ := se4.sub ee (st'.ok.drop l4)
          exact ⟨z5, m5, clear cl ρ2, se5, st5.ok, hC2.step ((st'.drop l4).trans st5)⟩
  · refine .inl ⟨⟨vs, sq, by omega⟩, ?_⟩
    have hC' : FlP G W false Γl Γb τr Dn σc Hc zc mc (.nx ρc) := by
      cases j with
      | zero =>
        unfold forOX at hC
        simp only [ed] at hC
        rw [if_pos (by omega)] at hC
        exact hC
      | succ n =>
        unfold forOX at hC
        simp only [ed, List.getElem?_eq_none (show ds.length ≤ k by omega)] at hC
        exact hC
    exact hC' σc Hc zc mc seC (Stp.refl okC)
end
end En

set_option Elab.async false
set_option linter.all false
set_option autoImplicit false
set_option maxRecDepth 100000
set_option maxHeartbeats 1000000
namespace En
open PySem PySem.Spec PyProof.Rows L2 RZ
variable {G : Gx} {lv : Nat} {F : FI} {c : Cg} {sc : Scope} {Γ Γ' Γ1 Γ2 Γb : TyEnv} {x : Expr} {τ τ' τr t : Ty} {W : WX} {X : Cx} {i n : Nat}

/-! ## names of slots, what is no comprehension -/
def locB (N : List Str) (sc : Scope) (i : Nat) (x : Str) : Bool := decide (N[i]? = some x) && (decide (sc.names.lookup x = some .local) || decide (sc.names.lookup x = some .cell))
def locBs (N : List Str) (sc : Scope) : List Nat → List Expr → Bool
  | [], [] => true
  | i :: is, .Name x _ :: es => locB N sc i x && locBs N sc is es
  | _, _ => false
def noComp : Expr → Bool
  | .SetComp _ _ _ _ => false
  | .DictComp _ _ _ _ _ => false
  | _ => true
theorem sw_none {x tgx : Expr} {line : Nat} {env : PySem.Env} (h : noComp x = true) (h' : noLC x = true) : swapsWith x (some tgx) line env = pure false := by
  cases x <;> first | rfl | (cases h; done) | (cases h'; done)
theorem sw_none0 {x : Expr} {line : Nat} {env : PySem.Env} (h : noComp x = true) (h' : noLC x = true) : swapsWith x none line env = pure false := by
  cases x <;> first | rfl | (cases h; done) | (cases h'; done)
theorem locB_inv {N : List Str} {x : Str} (h : locB N sc i x = true) : N[i]? = some x ∧ Loc sc x := by
  unfold locB at h
  simp only [Bool.and_eq_true, Bool.or_eq_true, decide_eq_true_eq] at h
  exact h
end En

set_option Elab.async false
set_option linter.all false
set_option autoImplicit false
set_option maxRecDepth 100000
set_option maxHeartbeats 1000000
namespace En
open PySem PySem.Spec PyProof.Rows L2 RZ

/-! ## blocks with an exception in hand -/
structure GoodP (G : Gx) (lv : Nat) (sc : Scope) (X : Cx) (p : Addr × Obj) (C : Addr) (d : Option Addr) : Prop where
  gx : gx X = G
  sc : X.env.scope = sc
  room : L2H.RoomH lv X.A
  blt : ∀ x ∈ blts, X.mg x = none
  nd : X.N.Nodup
  fn : ∀ x, X.fn x = true
  pin : Pinned X p C d
variable {G : Gx} {lv : Nat} {F : FI} {sc : Scope} {X : Cx} {Γ Γ' Γ1 Γ2 : TyEnv} {H H' : Hp} {z z' : Addr → Prop} {m m' : Ow} {σ σ' : L2.St} {ρ : Env} {τr : Ty}
theorem GoodP.gl {p : Addr × Obj} {C : Addr} {d : Option Addr} (g : GoodP G lv sc X p C d) {x : Str} (h : glB sc x = true) : Gl X x := by
  have := g.sc
  subst this
  exact (of_decide_eq_true h : X.env.scope.names.lookup x = some .globalImplicit)
structure XI where
  p : Addr × Obj
  C : Addr
  d : Option Addr
  x : Exc
  ix : Nat
def At (G : Gx) (I : XI) (σ : L2.St) (H : Hp) : Prop := σ[I.ix]? = some (some (.ref I.p.1)) ∧ XRep G I.x (.ref I.C) I.d H
theorem XRep.ext {x : Exc} {c : Value} {d : Option Addr} (h : XRep G x c d H) (e : Ext H H') : XRep G x c d H' := by
  obtain ⟨h1, h2⟩ := h
  refine ⟨h1, ?_⟩
  cases hp : x.pay with
  | none => rw [hp] at h2; exact h2
  | some q =>
    obtain ⟨f, y⟩ := q
    rw [hp] at h2
    obtain ⟨a, v, e1, e2, r⟩ := h2
    exact ⟨a, v, e1, e a _ e2, r.ext e fun _ q => q⟩
theorem XRep.dOk {x : Exc} {c : Value} {d : Option Addr} (h : XRep G x c d H) : dOk H d := by
  obtain ⟨h1, h2⟩ := h
  cases hp : x.pay with
  | none => rw [hp] at h2; exact .inl h2
  | some q =>
    obtain ⟨f, y⟩ := q
    rw [hp] at h2
    obtain ⟨a, v, e1, e2, r⟩ := h2
    exact .inr ⟨a, _, e1, e2⟩
theorem At.ext {I : XI} (h : At G I σ H) (e : Ext H H') : At G I σ H' := ⟨h.1, h.2.ext e⟩
/-- an immutable value, wherever -/
def RI (G : Gx) (H : Hp) (y : D) (v : V) : Prop := ∀ z : Addr → Prop, Rp G.F H z .I y v fun _ => 0
def RIs (G : Gx) (H : Hp) (ys : List D) (vs : List V) : Prop := ∀ z : Addr → Prop, RL G.F H z .I ys vs fun _ => 0
theorem RI.ext {y : D} {v : V} (h : RI G H y v) (e : Ext H H') : RI G H' y v := fun z => (h z).ext e fun _ q => q
theorem RIs.ext {y : List D} {v : List V} (h : RIs G H y v) (e : Ext H H') : RIs G H' y v := fun z => (h z).ext e fun _ q => q
def EvX (G : Gx) (I : XI) (te : TE) (Γ : TyEnv) (f : Env → Option D) : Prop :=
  ∀ (ρ : Env) (σ : L2.St) (H : Hp) (z : Addr → Prop) (m : Ow), SE G.F H z Γ ρ σ m → At G I σ H → ∀ (Q : VK) (y : D), f ρ = some y → (imm y = true → ∀ (v : V) (H' : Hp), RI G H' y v → Ext H H' → Q v H') → te σ H Q
def EvXs (G : Gx) (I : XI) (ta : TA) (Γ : TyEnv) (f : Env → Option (List D)) : Prop :=
  ∀ (ρ : Env) (σ : L2.St) (H : Hp) (z : Addr → Prop) (m : Ow), SE G.F H z Γ ρ σ m → At G I σ H → ∀ (Q : List V → Hp → Prop) (ys : List D), f ρ = some ys → (immAll ys = true → ∀ (vs : List V) (H' : Hp), RIs G H' ys vs → Ext H H' → Q vs H') → ta σ H Q
theorem EvX.const {I : XI} {k : Kt} {v : V} (h : atomV k.d = some v) : EvX G I (tC v) Γ fun _ => some k.d := by
  intro ρ σ H z m se at_ Q y e q
  try dsimp only at e
  cases e
  exact q (by cases k <;> rfl) v H (fun z => Rp.atom h) Ext.refl
theorem EvX.var {I : XI} {i : Nat} (h : Γ[i]? = some (some .I)) : EvX G I (tVar i) Γ fun ρ => if imm (ρ.getD i .none) then some (ρ.getD i .none) else none := by
  intro ρ σ H z m se at_ Q y e q
  try dsimp only at e
  obtain ⟨v, m1, m2, h1, h2, _, _⟩ := se.get h
  by_cases hi : imm (ρ.getD i .none) = true
  · simp only [hi, if_true] at e
    cases e
    exact ⟨v, h1, q hi v H (fun z' => h2.imm hi z') Ext.refl⟩
  · rw [if_neg hi] at e
    cases e
theorem EvX.e {I : XI} : ∀ {Q : VK}, At G I σ H → Q (.ref I.p.1) H → tVar I.ix σ H Q := fun a q => ⟨_, a.1, q⟩
theorem EvX.fld {I : XI} {f : Str} : EvX G I (tFld I.p.1 I.d f (tVar I.ix)) Γ fun _ => match I.x.pay with
    | some (g, d) => if g = f ∧ imm d = true then some d else none
    | none => none := by
  intro ρ σ H z m se at_ Q y e q
  try dsimp only at e
  refine EvX.e at_ ⟨rfl, ?_⟩
  obtain ⟨_, _, h2⟩ := at_
  cases hp : I.x.pay with
  | none => rw [hp] at e; cases e
  | some r =>
    obtain ⟨g, d⟩ := r
    rw [hp] at e h2
    obtain ⟨a, v, e1, e2, r⟩ := h2
    by_cases hc : g = f ∧ imm d = true
    · simp only [hc, and_self, if_true] at e
      cases e
      exact ⟨a, _, v, e1, e2, by simp [hc.1], q hc.2 v H (fun z' => r.imm hc.2 z') Ext.refl⟩
    · simp only [hc, if_false] at e
      cases e
theorem EvXs.nil {I : XI} : EvXs G I tNil Γ fun _ => some [] := by
  intro ρ σ H z m se at_ Q ys e q
  try dsimp only at e
  cases e
  exact q rfl [] H (fun z => .nil fun _ => rfl) Ext.refl
theorem EvXs.cons {I : XI} {te : TE} {ta : TA} {f : Env → Option D} {g : Env → Option (List D)} (h1 : EvX G I te Γ f) (h2 : EvXs G I ta Γ g) : EvXs G I (tCons te ta) Γ fun ρ => (f ρ).bind fun d => (g ρ).bind fun ds => some (d :: ds) := by
  intro ρ σ H z m se at_ Q ys e q
  try dsimp only at e
  cases ef : f ρ with
  | none => rw [ef] at e; cases e
  | some d =>
    cases eg : g ρ with
    | none => rw [ef, Option.bind_some, eg] at e; cases e
    | some ds =>
      rw [ef, Option.bind_some, eg] at e
      cases e
      refine h1 ρ σ H z m se at_ _ d ef fun i1 v H1 r1 x1 => ?_
      refine h2 ρ σ H1 z m (se.ext x1 fun _ q => q) (at_.ext x1) _ ds eg fun i2 vs H2 r2 x2 => ?_
      exact q (by rw [immAll, i1, i2]; rfl) (v :: vs) H2 (fun z' => RL.cons' ((r1 z').ext x2 fun _ q => q) (r2 z') fun _ => rfl) (x1.trans x2)
theorem EvXs.tup {I : XI} {ta : TA} {g : Env → Option (List D)} (h : EvXs G I ta Γ g) (hl : ∀ ρ ys, g ρ = some ys → ys.length ≤ 1000) : EvX G I (tTup ta) Γ fun ρ => (g ρ).map .tuple := by
  intro ρ σ H z m se at_ Q y e q
  try dsimp only at e
  cases eg : g ρ with
  | none => rw [eg] at e; cases e
  | some ds =>
    rw [eg] at e
    cases e
    refine h ρ σ H z m se at_ _ ds eg fun i1 vs H1 r1 x1 => ⟨?_, fun p hp => ?_⟩
    · have := (r1 z).length
      have := hl ρ ds eg
      have := small1000 this
      omega
    · exact q (by rw [imm]; exact i1) (.ref p) _ (fun z' => Rp.mkT (.inl (.inl upd_same)) ((r1 z').new hp)) (x1.upd' hp)
theorem RI.bl {y : Bool} {v : V} (h : RI G H (.bool y) v) : v = .bl y := Rp.bl_inv (h fun _ => False)
theorem EvX.and {I : XI} {ta tb : TE} {f g : Env → Option D} (h1 : EvX G I ta Γ f) (h2 : EvX G I tb Γ g) : EvX G I (tAndV ta tb) Γ fun ρ => (f ρ).bind fun d => match d with
    | .bool true => g ρ
    | .bool false => some (.bool false)
    | _ => none := by
  intro ρ σ H z m se at_ Q y e q
  try dsimp only at e
  cases ef : f ρ with
  | none => rw [ef] at e; cases e
  | some d =>
    rw [ef, Option.bind_some] at e
    refine h1 ρ σ H z m se at_ _ d ef fun i1 v H1 r1 x1 => ?_
    cases d with
    | bool b =>
      refine ⟨b, r1.bl, ?_⟩
      cases b with
      | true => exact h2 ρ σ H1 z m (se.ext x1 fun _ q => q) (at_.ext x1) _ y e fun i2 v2 H2 r2 x2 => q i2 v2 H2 r2 (x1.trans x2)
      | false =>
        cases e
        exact q rfl _ H1 (fun z => Rp.atom rfl) x1
    | _ => cases e
theorem EvX.or {I : XI} {ta tb : TE} {f g : Env → Option D} (h1 : EvX G I ta Γ f) (h2 : EvX G I tb Γ g) : EvX G I (tOrV ta tb) Γ fun ρ => (f ρ).bind fun d => match d with
    | .bool true => some (.bool true)
    | .bool false => g ρ
    | _ => none := by
  intro ρ σ H z m se at_ Q y e q
  try dsimp only at e
  cases ef : f ρ with
  | none => rw [ef] at e; cases e
  | some d =>
    rw [ef, Option.bind_some] at e
    refine h1 ρ σ H z m se at_ _ d ef fun i1 v H1 r1 x1 => ?_
    cases d with
    | bool b =>
      refine ⟨b, r1.bl, ?_⟩
      cases b with
      | true =>
        cases e
        exact q rfl _ H1 (fun z => Rp.atom rfl) x1
      | false => exact h2 ρ σ H1 z m (se.ext x1 fun _ q => q) (at_.ext x1) _ y e fun i2 v2 H2 r2 x2 => q i2 v2 H2 r2 (x1.trans x2)
    | _ => cases e
theorem EvX.not {I : XI} {ta : TE} {f : Env → Option D} (h1 : EvX G I ta Γ f) : EvX G I (tNotV ta) Γ fun ρ => (f ρ).bind fun d => match d with
    | .bool b => some (.bool !b)
    | _ => none := by
  intro ρ σ H z m se at_ Q y e q
  try dsimp only at e
  cases ef : f ρ with
  | none => rw [ef] at e; cases e
  | some d =>
    rw [ef, Option.bind_some] at e
    refine h1 ρ σ H z m se at_ _ d ef fun i1 v H1 r1 x1 => ?_
    cases d with
    | bool b =>
      cases e
      exact ⟨b, r1.bl, q rfl _ H1 (fun z => Rp.atom rfl) x1⟩
    | _ => cases e
theorem EvX.eq {I : XI} {ta tb : TE} {f g : Env → Option D} (h1 : EvX G I ta Γ f) (h2 : EvX G I tb Γ g) : EvX G I (tCB (r2l (rEqD G.K)) (tL [ta, tb])) Γ fun ρ => (f ρ).bind fun d => (g ρ).bind fun e => opv .eq [d, e] := by
  intro ρ σ H z m se at_ Q y e q
  try dsimp only at e
  cases ef : f ρ with
  | none => rw [ef] at e; cases e
  | some d =>
    cases eg : g ρ with
    | none => rw [ef, Option.bind_some, eg] at e; cases e
    | some d2 =>
      rw [ef, Option.bind_some, eg, Option.bind_some] at e
      refine h1 ρ σ H z m se at_ _ d ef fun i1 v H1 r1 x1 => ?_
      refine h2 ρ σ H1 z m (se.ext x1 fun _ q => q) (at_.ext x1) _ d2 eg fun i2 v2 H2 r2 x2 => ?_
      have ra : RA G.F H2 z [.I, .I] [d, d2] [v, v2] fun _ => 0 := .cons (m1 := fun _ => 0) (m2 := fun _ => 0) ((r1 z).ext x2 fun _ q => q) (.cons (m1 := fun _ => 0) (m2 := fun _ => 0) (r2 z) (.nil fun _ => rfl) fun _ => rfl) fun _ => rfl
      obtain ⟨w, hw, k⟩ := at_eq H2 z _ _ _ _ y Q ra e
      refine k (q ?_ w H2 (fun z => Rp.atom hw) (x1.trans x2))
      simp only [opv] at e
      split at e
      · cases e; rfl
      · cases e
theorem EvX.isK {I : XI} {k : Kd} {ta : TE} {f : Env → Option D} (h1 : EvX G I ta Γ f) : EvX G I (tCB (rIsi G.K) (tL [ta, tC (.ty (clsOf k))])) Γ fun ρ => (f ρ).bind fun d => opv (.isK k) [d] := by
  intro ρ σ H z m se at_ Q y e q
  try dsimp only at e
  cases ef : f ρ with
  | none => rw [ef] at e; cases e
  | some d =>
    rw [ef, Option.bind_some] at e
    refine h1 ρ σ H z m se at_ _ d ef fun i1 v H1 r1 x1 => ?_
    have ra : RA G.F H1 z [.I] [d] [v] fun _ => 0 := .cons (m1 := fun _ => 0) (m2 := fun _ => 0) (r1 z) (.nil fun _ => rfl) fun _ => rfl
    obtain ⟨w, hw, k'⟩ := at_isK (k := k) H1 z _ _ _ _ y Q ra e
    refine k' (q ?_ w H1 (fun z => Rp.atom hw) x1)
    simp only [opv] at e
    (repeat' split at e) <;> first
      | (cases e; rfl)
      | cases e
end En

set_option Elab.async false
set_option linter.all false
set_option autoImplicit false
set_option maxRecDepth 100000
set_option maxHeartbeats 1000000
namespace En
open PySem PySem.Spec PyProof.Rows L2 RZ

/-! ## the check of such blocks -/
def isNm (N : List Str) (sc : Scope) (ix : Nat) : Expr → Bool
  | .Name y _ => slotB N sc ix y
  | _ => false
def kitL (t : List (Str × Str × Bool)) (n : Str) : List Str → Option Bool
  | [] => some false
  | m :: r => if (n, m, true) ∈ t then some true else if (n, m, false) ∈ t then kitL t n r else none
def tabOk (t : List (Str × Str × Bool)) (ns yes no : List Str) : Bool := (yes.all fun n => decide (kitL t n ns = some true)) && no.all fun n => decide (kitL t n ns = some false)
def clsNs (sc : Scope) : List Str → List Expr → Bool
  | [], [] => true
  | n :: ns, .Name y _ :: es => decide (y = n) && glB sc y && !dbg y && clsNs sc ns es
  | _, _ => false
def clsB (sc : Scope) (ns : List Str) : Expr → Bool
  | .Name y p => clsNs sc ns [.Name y p]
  | .Tuple es _ _ => clsNs sc ns es && decide (es.length ≤ 1000)
  | _ => false
mutual
def ckXE (F : FI) (sc : Scope) (ix : Nat) (Γ : TyEnv) : XE → Expr → Bool
  | .k t, x0 => match x0 with
    | .Constant q _ _ => (cEq t q)
    | _ => false
  | .v i, x0 => match x0 with
    | .Name y _ => (slotB F.N sc i y && decide (Γ[i]? = some (some .I)))
    | _ => false
  | .isa ns yes no, x0 => match x0 with
    | .Call (.Name f _) [e, c] [] _ => (decide (f = "isinstance") && glB sc f && isNm F.N sc ix e && clsB sc ns c && decide (∀ m ∈ ns, m ∈ F.ex.nms) && tabOk F.ex.kit ns yes no)
    | _ => false
  | .fld f, x0 => match x0 with
    | .Attribute e nm _ => (isNm F.N sc ix e && decide (nm = f) && decide (∀ n ∈ F.ex.cls, (n, f) ∈ F.ex.flds))
    | _ => false
  | .tup es, x0 => match x0 with
    | .Tuple xs _ _ => (ckXEs F sc ix Γ es xs && decide (xs.length ≤ 1000))
    | _ => false
  | .and a b, x0 => match x0 with
    | .BoolOp .And (u :: y :: r) p => (ckXE F sc ix Γ a u && ckXE F sc ix Γ b (if r.isEmpty then y else .BoolOp .And (y :: r) p))
    | _ => false
  | .or a b, x0 => match x0 with
    | .BoolOp .Or (u :: y :: r) p => (ckXE F sc ix Γ a u && ckXE F sc ix Γ b (if r.isEmpty then y else .BoolOp .Or (y :: r) p))
    | _ => false
  | .not a, x0 => match x0 with
    | .UnaryOp .Not u _ => (ckXE F sc ix Γ a u)
    | _ => false
  | .isK k a, x0 => match x0 with
    | .Call (.Name f _) [e, .Name c _] [] _ => (decide (f = "isinstance") && decide (c = nmOf k) && glB sc "isinstance" && glB sc (nmOf k) && noStar e && ckXE F sc ix Γ a e)
    | _ => false
  | .eq a b, x0 => match x0 with
    | .Compare u [.Eq] [v] _ => (ckXE F sc ix Γ a u && ckXE F sc ix Γ b v && !behindInMarks .Eq v && noStar u && noStar v)
    | _ => false
def ckXEs (F : FI) (sc : Scope) (ix : Nat) (Γ : TyEnv) : XEs → List Expr → Bool
  | .nil, [] => true
  | .cons e es, x :: xs => noStar x && ckXE F sc ix Γ e x && ckXEs F sc ix Γ es xs
  | _, _ => false
end
def isEqX : XE → Bool
  | .eq _ _ => true
  | _ => false
/-- what may be tested -/
def tstB : XE → Expr → Bool
  | .and a b, .BoolOp .And (u :: y :: r) p => tstB a u && tstB b (if r.isEmpty then y else .BoolOp .And (y :: r) p)
  | .or a b, .BoolOp .Or (u :: y :: r) p => tstB a u && tstB b (if r.isEmpty then y else .BoolOp .Or (y :: r) p)
  | .not a, .UnaryOp .Not u _ => tstB a u
  | e, u => plainT u || isEqX e
def ckXB (F : FI) (sc : Scope) (ix : Nat) (τr : Ty) : XB → TyEnv → List Stmt → Option (Option TyEnv)
  | .nil, Γ, x0 => match x0 with
    | [] => (some (some Γ))
    | _ => none
  | .set j e b, Γ, x0 => match x0 with
    | .Assign [.Name y _] x _ :: ss => (if locB F.N sc j y = true ∧ j ≠ ix ∧ j < Γ.length ∧ ckXE F sc ix Γ e x = true ∧ noComp x = true ∧ noLC x = true then ckXB F sc ix τr b (Γ.set j (some .I)) ss else none)
    | _ => none
  | .setL j es b, Γ, x0 => match x0 with
    | .Assign [.Name y _] (.List xs _) _ :: ss => (if locB F.N sc j y = true ∧ j ≠ ix ∧ j < Γ.length ∧ ckXEs F sc ix Γ es xs = true ∧ xs.length ≤ 1000 then ckXB F sc ix τr b (Γ.set j (some (.N .o .I))) ss else none)
    | _ => none
  | .setC j f n fb b, Γ, x0 => match x0 with
    | .Assign [.Name y _] (.Call (.Name f' _) [e] [] _) _ :: ss => (
    if locB F.N sc j y = true ∧ j ≠ ix ∧ j < Γ.length ∧ f' = f ∧ glB sc f = true ∧ dbg f = false ∧ isNm F.N sc ix e = true ∧ noStar e = true then
      if (f, n, fb, true) ∈ F.ex.fns then ckXB F sc ix τr b (Γ.set j (some (.N .o .I))) ss else if (f, n, fb, false) ∈ F.ex.fns then ckXB F sc ix τr b (Γ.set j (some .I)) ss else none
    else none)
    | _ => none
  | .setLC j e1 f n fb e2 b, Γ, x0 => match x0 with
    | .Assign [.Name y _] (.List [x1, .Call (.Name f' _) [e] [] _, x2] _) _ :: ss => (
    if locB F.N sc j y = true ∧ j ≠ ix ∧ j < Γ.length ∧ f' = f ∧ glB sc f = true ∧ dbg f = false ∧ isNm F.N sc ix e = true ∧ noStar e = true ∧ noStar x1 = true ∧ noStar x2 = true ∧ ckXE F sc ix Γ e1 x1 = true ∧ ckXE F sc ix Γ e2 x2 = true then
      if (f, n, fb, true) ∈ F.ex.fns then ckXB F sc ix τr b (Γ.set j (some (.N .o (.N .o .I)))) ss else if (f, n, fb, false) ∈ F.ex.fns then ckXB F sc ix τr b (Γ.set j (some (.N .o .I))) ss else none
    else none)
    | _ => none
  | .ret e, Γ, x0 => match x0 with
    | [.Return (some x) _] => (if ckXE F sc ix Γ e x = true ∧ τr = .I then some none else none)
    | _ => none
  | .retL es, Γ, x0 => match x0 with
    | [.Return (some (.List xs _)) _] => (if ckXEs F sc ix Γ es xs = true ∧ xs.length ≤ 1000 ∧ τr = .N .o .I then some none else none)
    | _ => none
  | .ite t a b, Γ, x0 => match x0 with
    | .If u v [] _ :: ss => (if ckXE F sc ix Γ t u = true ∧ tstB t u = true then match ckXB F sc ix τr a Γ v with
      | some (some Γa) => if Γa = Γ then ckXB F sc ix τr b Γ ss else none
      | some none => ckXB F sc ix τr b Γ ss
      | none => none
    else none)
    | _ => none
variable {G : Gx} {lv : Nat} {F : FI} {sc : Scope} {X : Cx} {Γ Γ' Γ1 Γ2 : TyEnv} {H H' H1 : Hp} {z z' : Addr → Prop} {m m' : Ow} {σ σ' : L2.St} {ρ : Env} {τr τ : Ty} {I : XI}
theorem GoodP.N {p : Addr × Obj} {C : Addr} {d : Option Addr} (g : GoodP G lv sc X p C d) : X.N = G.N := by have := g.gx; subst this; rfl
theorem GoodP.K {p : Addr × Obj} {C : Addr} {d : Option Addr} (g : GoodP G lv sc X p C d) : X.K = G.K := by have := g.gx; subst this; rfl
theorem GoodP.mg {p : Addr × Obj} {C : Addr} {d : Option Addr} (g : GoodP G lv sc X p C d) : X.mg = G.mg := by have := g.gx; subst this; rfl
theorem slot_pe {i : Nat} {y : Str} {q : Pos} {p : Addr × Obj} {C : Addr} {d : Option Addr} (hN : F.N = G.N) (h : slotB F.N sc i y = true) (g : GoodP G lv sc X p C d) : PE X (.Name y q) (tVar i) := by
  obtain ⟨h1, h2, h3, h4⟩ := slotB_inv h
  exact pe_var (by rw [g.N, ← hN]; exact h1) (by rw [g.sc]; exact h2) h3 h4
theorem isNm_pe {e : Expr} {ix : Nat} {p : Addr × Obj} {C : Addr} {d : Option Addr} (hN : F.N = G.N) (h : isNm F.N sc ix e = true) (g : GoodP G lv sc X p C d) : PE X e (tVar ix) := by
  unfold isNm at h
  split at h
  · exact slot_pe hN h g
  · cases h
theorem isNm_star {N : List Str} {e : Expr} {ix : Nat} (h : isNm N sc ix e = true) : noStar e = true := by
  unfold isNm at h
  split at h
  · rfl
  · cases h
theorem NmV.uniq (hv : G.mg "ValueError" = none) {n : Str} {v v' : V} {u u' : Value} (h : NmV G n v u) (h' : NmV G n v' u') : u = u' := by
  rcases h with ⟨D, e, rfl, rfl⟩ | ⟨rfl, rfl, rfl⟩
  · rcases h' with ⟨D', e', rfl, rfl⟩ | ⟨rfl, rfl, rfl⟩
    · rw [e] at e'
      cases e'
      rfl
    · rw [hv] at e; cases e
  · rcases h' with ⟨D', e', rfl, rfl⟩ | ⟨_, rfl, rfl⟩
    · rw [hv] at e'; cases e'
    · rfl
/-- the classes of a test, as they are read -/
theorem names_ok (hx : XOkF G lv F.ex) (hv : G.mg "ValueError" = none) : ∀ (ns : List Str) (es : List Expr), clsNs sc ns es = true → (∀ m ∈ ns, m ∈ F.ex.nms) → ∃ (vs : List V) (us : List Value), Paired ClsV vs us ∧ vs.length = es.length ∧ (∀ (X : Cx) (p : Addr × Obj) (C : Addr) (d : Option Addr), GoodP G lv sc X p C d → PEs X es (vs.map tC)) ∧
    ∀ (n : Str) (C : Addr) (b : Bool), G.mg n = some (.ref C) → kitL F.ex.kit n ns = some b → PySem.W.kitAny G.K (.ref C) us = some b
  | [], [], _, _ => ⟨[], [], .nil, rfl, fun X p C d g => .nil, fun n C b _ h => by cases h; rfl⟩
  | [], _ :: _, h, _ => by cases h
  | _ :: _, [], h, _ => by cases h
  | n :: ns, e :: es, h, hm => by
    unfold clsNs at h
    split at h
    · rename_i h1 _; cases h1
    · rename_i n' ns' y p es' h1 h2
      cases h1
      cases h2
      simp only [Bool.and_eq_true, decide_eq_true_eq, Bool.not_eq_true'] at h
      obtain ⟨⟨⟨rfl, hg⟩, hd⟩, h⟩ := h
      obtain ⟨vs, us, k1, k2, k3, k4⟩ := names_ok hx hv ns es h fun m q => hm m (List.mem_cons_of_mem _ q)
      obtain ⟨v, u, nv⟩ := hx.nm y (hm y List.mem_cons_self)
      refine ⟨v :: vs, u :: us, .cons nv.cls k1, by simp [k2], fun X pp C d g => .cons rfl ?_ (k3 X pp C d g), fun n C b hC hk => ?_⟩
      · rcases nv with ⟨D, e, rfl, rfl⟩ | ⟨rfl, rfl, rfl⟩
        · exact pe_glob (g.gl hg) (by rw [g.mg]; exact e) rfl hd
        · exact pe_bltn (g.gl hg) (g.blt _ (by decide)) boot_ValueError rfl (by decide) hd
      · unfold kitL at hk
        by_cases c1 : (n, y, true) ∈ F.ex.kit
        · rw [if_pos c1] at hk
          cases hk
          obtain ⟨C', v', u', e1, e2, e3⟩ := hx.kit _ _ _ c1
          rw [hC] at e1
          cases e1
          rw [← nv.uniq hv e2] at e3
          exact kitAny_cons e3 (fun q => by cases q) fun _ => rfl
        · rw [if_neg c1] at hk
          by_cases c2 : (n, y, false) ∈ F.ex.kit
          · rw [if_pos c2] at hk
            obtain ⟨C', v', u', e1, e2, e3⟩ := hx.kit _ _ _ c2
            rw [hC] at e1
            cases e1
            rw [← nv.uniq hv e2] at e3
            exact kitAny_cons e3 (fun _ => k4 n C b hC hk) fun q => by cases q
          · rw [if_neg c2] at hk
            cases hk
    · cases h
theorem tL_tC : ∀ (vs : List V) (R : List V → Hp → Prop), R vs H → tL (vs.map tC) σ H R
  | [], R, h => h
  | v :: vs, R, h => tL_tC vs (fun ws H1 => R (v :: ws) H1) h
/-- isinstance(e, ..) -/
theorem isa_ok (hx : XOkF G lv F.ex) (hN : F.N = G.N) (hv : G.mg "ValueError" = none) (T : ExcK G.K I.C) (hC : G.mg I.x.cls = some (.ref I.C)) {ns yes no : List Str} {e : Expr} (h : ckXE F sc I.ix Γ (.isa ns yes no) e = true) :
    ∃ te, (∀ X, GoodP G lv sc X I.p I.C I.d → PE X e te) ∧ EvX G I te Γ (xev I.x (.isa ns yes no)) := by
  unfold ckXE at h
  split at h
  all_goals first
    | (cases h; done)
    | skip
  · rename_i f fp e c pos
    simp only [Bool.and_eq_true, decide_eq_true_eq] at h
    obtain ⟨⟨⟨⟨⟨rfl, hg⟩, hn⟩, hc⟩, hm⟩, ht⟩ := h
    unfold tabOk at ht
    simp only [Bool.and_eq_true, List.all_eq_true, decide_eq_true_eq] at ht
    obtain ⟨ty, tn⟩ := ht
    -- the answer of the test
    have ans : ∀ (us : List Value), (∀ b, kitL F.ex.kit I.x.cls ns = some b → PySem.W.kitAny G.K (.ref I.C) us = some b) → ∀ (ρ : Env) (y : D), xev I.x (.isa ns yes no) ρ = some y → ∃ b, y = .bool b ∧ PySem.W.kitAny G.K (.ref I.C) us = some b := fun us k ρ y hy => by
      have hy : (if I.x.cls ∈ yes then some (PyData.bool true) else if I.x.cls ∈ no then some (PyData.bool false) else none) = some y := by unfold xev at hy; exact hy
      by_cases c1 : I.x.cls ∈ yes
      · rw [if_pos c1] at hy
        cases hy
        exact ⟨true, rfl, k _ (ty _ c1)⟩
      · rw [if_neg c1] at hy
        by_cases c2 : I.x.cls ∈ no
        · rw [if_pos c2] at hy
          cases hy
          exact ⟨false, rfl, k _ (tn _ c2)⟩
        · rw [if_neg c2] at hy
          cases hy
    have call : ∀ (tc : TE), (∀ X, GoodP G lv sc X I.p I.C I.d → PE X c tc) → noStar c = true → ∀ X, GoodP G lv sc X I.p I.C I.d → PE X (.Call (.Name "isinstance" fp) [e, c] [] pos) (tCB (rIsP G.K I.p.1 I.C I.d) (tL [tVar I.ix, tc])) := fun tc pc sc' X g => by
      have cr : CallR X (.builtin "isinstance") (rIsP G.K I.p.1 I.C I.d) := by
        have := call_isP (X := X) (p := I.p) (C := I.C) (d := I.d) (by rw [g.K]; exact T) g.pin
        rwa [g.K] at this
      exact callB_pe (ts := [tVar I.ix, tc]) cr (g.gl hg) (g.blt _ (by decide)) boot_isinstance (by decide) (by decide) (.cons (isNm_star hn) (isNm_pe hN hn g) (.cons sc' (pc X g) .nil)) (by simp)
    cases c with
    | Name y p =>
      have hc : clsNs sc ns [.Name y p] = true := hc
      obtain ⟨vs, us, k1, k2, k3, k4⟩ := names_ok hx hv ns _ hc hm
      cases vs with
      | nil => cases k2
      | cons v vs =>
        cases vs with
        | cons _ _ => cases k2
        | nil =>
          cases k1 with
          | cons cv kk =>
            cases kk
            rename_i u
            refine ⟨_, call (tC v) (fun X g => ?_) rfl, ?_⟩
            · cases k3 X _ _ _ g with
              | cons _ q _ => exact q
            · intro ρ σ H z m se at_ Q y hy q
              obtain ⟨b, rfl, hk⟩ := ans [u] (fun b hb => k4 _ _ b hC hb) ρ y hy
              have h1 : PySem.W.kitOne G.K (.ref I.C) u = some b := by
                unfold PySem.W.kitAny at hk
                cases ho : PySem.W.kitOne G.K (.ref I.C) u with
                | none => rw [ho] at hk; cases hk
                | some b' =>
                  rw [ho] at hk
                  cases b' with
                  | true => cases hk; rfl
                  | false => cases hk; rfl
              exact EvX.e at_ ⟨v, b, rfl, at_.2.dOk, .inl ⟨u, cv, h1⟩, q rfl _ H (fun z => Rp.atom rfl) Ext.refl⟩
    | Tuple es k p =>
      have hc : (clsNs sc ns es && decide (es.length ≤ 1000)) = true := hc
      rw [Bool.and_eq_true, decide_eq_true_eq] at hc
      obtain ⟨vs, us, k1, k2, k3, k4⟩ := names_ok hx hv ns _ hc.1 hm
      refine ⟨_, call (tTup (tL (vs.map tC))) (fun X g => pe_tup (k3 X _ _ _ g).pa) rfl, ?_⟩
      intro ρ σ H z m se at_ Q y hy q
      obtain ⟨b, rfl, hk⟩ := ans us (fun b hb => k4 _ _ b hC hb) ρ y hy
      refine EvX.e (Q := fun v H1 => tL [tTup (tL (vs.map tC))] σ H1 fun ws H2 => rIsP G.K I.p.1 I.C I.d (v :: ws) H2 Q) at_ ?_
      refine tL_tC vs _ ⟨?_, fun p hp => ?_⟩
      · have := small1000 (n := vs.length) (by omega)
        omega
      · have ex : Ext H (upd H p (.tup vs)) := Ext.new hp
        exact ⟨.ref p, b, rfl, (at_.2.ext ex).dOk, .inr ⟨p, vs, us, rfl, upd_same, k1, hk⟩, q rfl _ _ (fun z => Rp.atom rfl) ex⟩
    | _ => cases hc
end En

set_option Elab.async false
set_option linter.all false
set_option autoImplicit false
set_option maxRecDepth 100000
set_option maxHeartbeats 1000000
namespace En
open PySem PySem.Spec PyProof.Rows L2 RZ
variable {G : Gx} {lv : Nat} {F : FI} {sc : Scope} {X : Cx} {Γ Γ' Γ1 Γ2 : TyEnv} {H H' H1 : Hp} {z z' z1 : Addr → Prop} {m m' m1 : Ow} {σ σ' : L2.St} {ρ : Env} {τr τ : Ty} {I : XI}
theorem EvX.fn {te : TE} {f g : Env → Option D} (h : EvX G I te Γ f) (e : ∀ ρ, g ρ = f ρ) : EvX G I te Γ g := fun ρ σ H z m se at_ Q y ey q => h ρ σ H z m se at_ Q y (by rw [← e]; exact ey) q
theorem EvXs.fn {te : TA} {f g : Env → Option (List D)} (h : EvXs G I te Γ f) (e : ∀ ρ, g ρ = f ρ) : EvXs G I te Γ g := fun ρ σ H z m se at_ Q y ey q => h ρ σ H z m se at_ Q y (by rw [← e]; exact ey) q
def XEs.len : XEs → Nat
  | .nil => 0
  | .cons _ es => es.len + 1
theorem xevs_len {x : Exc} : ∀ (es : XEs) (ρ : Env) (ys : List D), xevs x es ρ = some ys → ys.length = es.len
  | .nil, ρ, ys, h => by
    unfold xevs at h
    cases h
    rfl
  | .cons e es, ρ, ys, h => by
    unfold xevs at h
    cases ef : xev x e ρ with
    | none => rw [ef] at h; cases h
    | some d =>
      cases eg : xevs x es ρ with
      | none => rw [ef, Option.bind_some, eg] at h; cases h
      | some ds =>
        rw [ef, Option.bind_some, eg] at h
        cases h
        have := xevs_len es ρ ds eg
        simp [XEs.len, this]
theorem ckXEs_len {ix : Nat} : ∀ (es : XEs) (xs : List Expr), ckXEs F sc ix Γ es xs = true → xs.length = es.len
  | .nil, [], _ => rfl
  | .nil, _ :: _, h => by unfold ckXEs at h; cases h
  | .cons _ _, [], h => by unfold ckXEs at h; cases h
  | .cons e es, x :: xs, h => by
    unfold ckXEs at h
    rw [Bool.and_eq_true] at h
    have := ckXEs_len es xs h.2
    simp [XEs.len, this]
theorem BoolTail {op : BoolOp} {y : Expr} {r : List Expr} {p : Pos} {t : TE} (h : PE X (if r.isEmpty then y else .BoolOp op (y :: r) p) t) : PE X (.BoolOp op (y :: r) p) t := BoolOp_tail h
mutual
theorem ckXE_ok (hx : XOkF G lv F.ex) (hN : F.N = G.N) (hv : G.mg "ValueError" = none) (T : ExcK G.K I.C) (hC : G.mg I.x.cls = some (.ref I.C)) (hI : I.x.cls ∈ F.ex.cls) : ∀ (xe : XE) (e : Expr), ckXE F sc I.ix Γ xe e = true → ∃ te, (∀ X, GoodP G lv sc X I.p I.C I.d → PE X e te) ∧ EvX G I te Γ (xev I.x xe)
  | .k t, e, h => by
    unfold ckXE at h
    split at h <;> first | (cases h; done) | skip
    obtain ⟨v, h1, h2⟩ := cEq_inv h
    exact ⟨tC v, fun X g => h2 X _ _, (EvX.const h1).fn fun ρ => by unfold xev; rfl⟩
  | .v i, e, h => by
    unfold ckXE at h
    split at h <;> first | (cases h; done) | skip
    rw [Bool.and_eq_true, decide_eq_true_eq] at h
    exact ⟨tVar i, fun X g => slot_pe hN h.1 g, (EvX.var h.2).fn fun ρ => by unfold xev; rfl⟩
  | .isa ns yes no, e, h => isa_ok hx hN hv T hC h
  | .fld f, e, h => by
    unfold ckXE at h
    split at h <;> first | (cases h; done) | skip
    simp only [Bool.and_eq_true, decide_eq_true_eq] at h
    obtain ⟨⟨hn, rfl⟩, hf⟩ := h
    rename_i e nm pos
    refine ⟨_, fun X g => ?_, EvX.fld.fn fun ρ => by unfold xev; rfl⟩
    obtain ⟨C', e1, e2⟩ := hx.fld _ _ (hf _ hI)
    rw [hC] at e1
    cases e1
    refine pe_fld (by rw [g.K]; exact T) g.pin (by rw [g.K]; exact e2) (isNm_pe hN hn g) ?_
    cases e <;> first | rfl | (cases hn; done)
  | .tup es, e, h => by
    unfold ckXE at h
    split at h <;> first | (cases h; done) | skip
    rename_i xs k p
    simp only [Bool.and_eq_true, decide_eq_true_eq] at h
    obtain ⟨ts, h1, h2⟩ := ckXEs_ok hx hN hv T hC hI es xs h.1
    refine ⟨_, fun X g => pe_tup (h1 X g).pa, (EvXs.tup h2 fun ρ ys hy => ?_).fn fun ρ => by rw [xev]⟩
    have := xevs_len es ρ ys hy
    have := ckXEs_len es xs h.1
    omega
  | .and a b, e, h => by
    unfold ckXE at h
    split at h <;> first | (cases h; done) | skip
    rw [Bool.and_eq_true] at h
    obtain ⟨ta, p1, e1⟩ := ckXE_ok hx hN hv T hC hI a _ h.1
    obtain ⟨tb, p2, e2⟩ := ckXE_ok hx hN hv T hC hI b _ h.2
    exact ⟨_, fun X g => pe_and (p1 X g) (BoolTail (p2 X g)), (EvX.and e1 e2).fn fun ρ => by rw [xev] <;> rfl⟩
  | .or a b, e, h => by
    unfold ckXE at h
    split at h <;> first | (cases h; done) | skip
    rw [Bool.and_eq_true] at h
    obtain ⟨ta, p1, e1⟩ := ckXE_ok hx hN hv T hC hI a _ h.1
    obtain ⟨tb, p2, e2⟩ := ckXE_ok hx hN hv T hC hI b _ h.2
    exact ⟨_, fun X g => pe_or (p1 X g) (BoolTail (p2 X g)), (EvX.or e1 e2).fn fun ρ => by rw [xev] <;> rfl⟩
  | .not a, e, h => by
    unfold ckXE at h
    split at h <;> first | (cases h; done) | skip
    obtain ⟨ta, p1, e1⟩ := ckXE_ok hx hN hv T hC hI a _ h
    exact ⟨_, fun X g => pe_not (p1 X g), (EvX.not e1).fn fun ρ => by rw [xev] <;> rfl⟩
  | .eq a b, e, h => by
    unfold ckXE at h
    split at h <;> first | (cases h; done) | skip
    simp only [Bool.and_eq_true, Bool.not_eq_true'] at h
    obtain ⟨⟨⟨⟨h1, h2⟩, hb⟩, s1⟩, s2⟩ := h
    obtain ⟨ta, p1, e1⟩ := ckXE_ok hx hN hv T hC hI a _ h1
    obtain ⟨tb, p2, e2⟩ := ckXE_ok hx hN hv T hC hI b _ h2
    refine ⟨_, fun X g => ?_, (EvX.eq e1 e2).fn fun ρ => by rw [xev]⟩
    have hu : X.A.units + 64 < cLine := by have := g.room.un; omega
    rw [← g.K]
    exact pe_cmpR (op_eqD (X := X) hu) (p1 X g) (p2 X g) hb
  | .isK k a, e, h => by
    unfold ckXE at h
    split at h <;> first | (cases h; done) | skip
    simp only [Bool.and_eq_true, decide_eq_true_eq] at h
    obtain ⟨⟨⟨⟨⟨rfl, rfl⟩, g1⟩, g2⟩, s1⟩, h1⟩ := h
    obtain ⟨ta, p1, e1⟩ := ckXE_ok hx hN hv T hC hI a _ h1
    refine ⟨_, fun X g => ?_, (EvX.isK (k := k) e1).fn fun ρ => by rw [xev]⟩
    have hT : ∀ p : Pos, PE X (.Name (nmOf k) p) (tC (.ty (clsOf k))) := fun p => by
      cases k
      · exact pe_bltn (g.gl g2) (g.blt _ (by decide)) boot_int rfl (by decide) (by decide)
      · exact pe_bltn (g.gl g2) (g.blt _ (by decide)) boot_bool rfl (by decide) (by decide)
      · exact pe_bltn (g.gl g2) (g.blt _ (by decide)) boot_tuple rfl (by decide) (by decide)
      · exact pe_bltn (g.gl g2) (g.blt _ (by decide)) boot_list rfl (by decide) (by decide)
      · exact pe_bltn (g.gl g2) (g.blt _ (by decide)) boot_str rfl (by decide) (by decide)
      · exact pe_bltn (g.gl g2) (g.blt _ (by decide)) boot_dict rfl (by decide) (by decide)
    rw [← g.K]
    exact callB_pe (ts := [ta, tC (.ty (clsOf k))]) call_isi (g.gl g1) (g.blt _ (by decide)) boot_isinstance (by decide) (by decide) (.cons s1 (p1 X g) (.cons rfl (hT _) .nil)) (by simp)
theorem ckXEs_ok (hx : XOkF G lv F.ex) (hN : F.N = G.N) (hv : G.mg "ValueError" = none) (T : ExcK G.K I.C) (hC : G.mg I.x.cls = some (.ref I.C)) (hI : I.x.cls ∈ F.ex.cls) : ∀ (es : XEs) (xs : List Expr), ckXEs F sc I.ix Γ es xs = true → ∃ ts, (∀ X, GoodP G lv sc X I.p I.C I.d → PEs X xs ts) ∧ EvXs G I (tL ts) Γ (xevs I.x es)
  | .nil, [], h => ⟨[], fun X g => .nil, EvXs.nil.fn fun ρ => by unfold xevs; rfl⟩
  | .nil, _ :: _, h => by unfold ckXEs at h; cases h
  | .cons _ _, [], h => by unfold ckXEs at h; cases h
  | .cons e es, x :: xs, h => by
    unfold ckXEs at h
    simp only [Bool.and_eq_true] at h
    obtain ⟨⟨s1, h1⟩, h2⟩ := h
    obtain ⟨te, p1, e1⟩ := ckXE_ok hx hN hv T hC hI e x h1
    obtain ⟨ts, p2, e2⟩ := ckXEs_ok hx hN hv T hC hI es xs h2
    exact ⟨te :: ts, fun X g => .cons s1 (p1 X g) (p2 X g), (EvXs.cons e1 e2).fn fun ρ => by rw [xevs]⟩
end
/-! ### blocks -/
theorem stpExt (ok : Ok H z m) (e : Ext H H') : Stp H z m H' z m where
  keep := fun a o h _ => e a o h
  live := fun a h => by
    cases q : H a with
    | none => exact absurd q h
    | some o => rw [e a o q]; simp
  zz := fun _ q => q
  dec := fun a _ => ⟨Nat.le_refl _, .inl⟩
  ok := fun a => by
    obtain ⟨h1, h2, h3⟩ := ok a
    refine ⟨h1, fun q => ⟨(h2 q).1, ?_⟩, fun q => ?_⟩
    · have mu := (h2 q).2
      cases k : H a with
      | none => rw [k] at mu; exact mu.elim
      | some o => rw [e a o k]; rw [k] at mu; exact mu
    · cases k : H a with
      | none => exact absurd k (h3 q)
      | some o => rw [e a o k]; simp
/-- what a call has made new comes to what is there -/
theorem stpNew (ok : Ok H z m) (s : Stp H (fun _ => False) (fun _ => 0) H' z1 m1) : Stp H z m H' z (fun a => m1 a + m a) := by
  have e : Ext H H' := s.ext0
  have base := stpExt ok e
  have m10 : ∀ a, H a ≠ none → m1 a = 0 := fun a h => Nat.le_zero.mp (s.dec a h).1
  have m0 : ∀ a, H a = none → m a = 0 := fun a h => by
    obtain ⟨h1, h2, _⟩ := ok a
    rcases Nat.eq_zero_or_pos (m a) with q | q
    · exact q
    · have mu := (h2 (by omega)).2
      rw [h] at mu
      exact mu.elim
  refine ⟨base.keep, base.live, base.zz, fun a h => ⟨by have := m10 a h; omega, fun q => .inl q⟩, fun a => ?_⟩
  cases k : H a with
  | none =>
    have h0 := m0 a k
    obtain ⟨o1, o2, o3⟩ := s.ok a
    refine ⟨by omega, fun q => ⟨fun zq => (ok a).2.2 zq k, (o2 (by omega)).2⟩, fun zq => absurd k ((ok a).2.2 zq)⟩
  | some o =>
    have h0 := m10 a (by rw [k]; simp)
    obtain ⟨o1, o2, o3⟩ := base.ok a
    exact ⟨by omega, fun q => o2 (by omega), o3⟩
theorem Ty.own_inv {q : Md} {t : Ty} (h : (Ty.N q t).own = true) : q = .o ∧ t.own = true := by
  cases q
  · exact ⟨rfl, h⟩
  · cases h
  · cases h
theorem Nd.anyz {F : Fx} {τ τ' : Ty} {d : D} {v : V} {ds : List D} {vs : List V} (h : Nd F H z τ d v τ' ds vs m) (ho : τ.own = true) : Nd F H z' τ d v τ' ds vs m ∧ τ'.own = true := by
  cases h with
  | non h => exact ⟨.non h, ho⟩
  | bl h => exact ⟨.bl h, ho⟩
  | int h => exact ⟨.int h, ho⟩
  | str h => exact ⟨.str h, ho⟩
  | tup h e => exact ⟨.tup h e, ho⟩
  | lst h => obtain ⟨rfl, ht⟩ := Ty.own_inv ho; exact ⟨.lst h, ht⟩
  | dk n l h => obtain ⟨rfl, ht⟩ := Ty.own_inv ho; exact ⟨.dk n l h, ht⟩
  | dt n k l h => obtain ⟨rfl, ht⟩ := Ty.own_inv ho; exact ⟨.dt n k l h, ht⟩
theorem RL.anyz {F : Fx} {ds : List D} {vs : List V} (h : RL F H z τ ds vs m) (ho : τ.own = true) : RL F H z' τ ds vs m := by
  induction h with
  | nil e => exact .nil e
  | cons a b c q ih1 ih2 =>
    obtain ⟨a', ho'⟩ := a.anyz (z' := z') ho
    exact .cons a' (ih1 ho') (ih2 ho) q
def FlB (G : Gx) (I : XI) (τr : Ty) (Dn : Ends) (Γ' : TyEnv) (H : Hp) (z : Addr → Prop) (m : Ow) : XFl → Prop
  | .nx ρ' => ∀ (σ' : L2.St) (H' : Hp) (z' : Addr → Prop) (m' : Ow), SE G.F H' z' Γ' ρ' σ' m' → Stp H z m H' z' m' → At G I σ' H' → Dn.nx σ' H'
  | .rt y => ∀ (v : V) (H' : Hp) (z' : Addr → Prop) (mv : Ow), Rp G.F H' z' τr y v mv → Stp H z m H' z' mv → Dn.rt v H'
  | .bad => False
theorem FlB.step {Dn : Ends} {r : XFl} (h : FlB G I τr Dn Γ' H z m r) (s : Stp H z m H1 z1 m1) : FlB G I τr Dn Γ' H1 z1 m1 r := by
  cases r with
  | nx ρ' => exact fun σ' H' z' m' a b c => h σ' H' z' m' a (s.trans b) c
  | rt y => exact fun v H' z' mv a b => h v H' z' mv a (s.trans b)
  | bad => exact h
def EvB (G : Gx) (I : XI) (τr : Ty) (t : TS) (Γ Γ' : TyEnv) (f : Env → XFl) : Prop :=
  ∀ (ρ : Env) (σ : L2.St) (H : Hp) (z : Addr → Prop) (m : Ow), SE G.F H z Γ ρ σ m → Ok H z m → At G I σ H → ∀ Dn : Ends, FlB G I τr Dn Γ' H z m (f ρ) → t Dn σ H
theorem At.set {I : XI} {j : Nat} {v : Option V} (h : At G I σ H) (hj : j ≠ I.ix) : At G I (σ.set j v) H := ⟨by rw [List.getElem?_set_ne hj]; exact h.1, h.2⟩
theorem EvB.fn {t : TS} {f g : Env → XFl} (h : EvB G I τr t Γ Γ' f) (e : ∀ ρ, g ρ = f ρ) : EvB G I τr t Γ Γ' g := fun ρ σ H z m se ok at_ Dn q => h ρ σ H z m se ok at_ Dn (by rw [← e]; exact q)
theorem EvB.nil : EvB G I τr tNext Γ Γ .nx := fun ρ σ H z m se ok at_ Dn q => q σ H z m se (Stp.refl ok) at_
theorem EvB.set {te : TE} {tb : TS} {f : Env → Option D} {g : Env → XFl} {j : Nat} (h : EvX G I te Γ f) (hb : EvB G I τr tb (Γ.set j (some .I)) Γ' g) (hj : j ≠ I.ix) (hl : j < Γ.length) : EvB G I τr (tSeq (tAsg te (gName j)) tb) Γ Γ' fun ρ => match f ρ with
    | some d => g (ρ.set j d)
    | none => .bad := by
  intro ρ σ H z m se ok at_ Dn q
  cases ef : f ρ with
  | none => simp only [ef] at q; exact q.elim
  | some d =>
    simp only [ef] at q
    refine h ρ σ H z m se at_ _ d ef fun i1 v H1 r1 x1 => ?_
    have s1 := stpExt ok x1
    obtain ⟨m2, se2, l2⟩ := (se.ext (z' := z) x1 fun _ q => q).put j hl (r1 z)
    have s2 : Stp H z m H1 z (fun b => 0 + m2 b) := s1.drop fun b => by have := l2 b; omega
    exact hb _ _ H1 z _ se2 s2.ok ((at_.ext x1).set hj) Dn (q.step s2)
theorem EvB.setL {ta : TA} {tb : TS} {f : Env → Option (List D)} {g : Env → XFl} {j : Nat} (h : EvXs G I ta Γ f) (hn : ∀ ρ ys, f ρ = some ys → ys.length ≤ 1000) (hb : EvB G I τr tb (Γ.set j (some (.N .o .I))) Γ' g) (hj : j ≠ I.ix) (hl : j < Γ.length) : EvB G I τr (tSeq (tAsg (tLst ta) (gName j)) tb) Γ Γ' fun ρ => match f ρ with
    | some ds => g (ρ.set j (.list ds))
    | none => .bad := by
  intro ρ σ H z m se ok at_ Dn q
  cases ef : f ρ with
  | none => simp only [ef] at q; exact q.elim
  | some ds =>
    simp only [ef] at q
    refine h ρ σ H z m se at_ _ ds ef fun i1 vs H1 r1 x1 => ⟨?_, fun p hp => ?_⟩
    · have := (r1 z).length
      have := small1000 (hn ρ ds ef)
      omega
    · have s1 := (stpExt ok x1).own (o := .lst vs) hp trivial
      have rp : Rp G.F (upd H1 p (.lst vs)) z (.N .o .I) (.list ds) (.ref p) (one p) := Rp.mkL (m0 := one p) (m1 := fun _ => 0) ⟨upd_same, fun _ => rfl⟩ ((r1 z).new hp) fun _ => rfl
      obtain ⟨m2, se2, l2⟩ := ((se.ext (z' := z) x1 fun _ q => q).new (o := .lst vs) hp).put j hl rp
      have s2 : Stp H z m (upd H1 p (.lst vs)) z (fun b => one p b + m2 b) := s1.drop fun b => by have := l2 b; omega
      exact hb _ _ _ z _ se2 s2.ok ((at_.ext (x1.upd' hp)).set hj) Dn (q.step s2)
theorem EvB.setC {tb : TS} {fx : Exc → XFl} {g : Env → XFl} {j : Nat} {cls : List Str} (hc : I.x.cls ∈ cls) (hZ : Zc (.ref I.C) I.d I.p.2) (hf : ∃ vs, I.p.2.data = .fields vs) (ho : τ.own = true) (hb : EvB G I τr tb (Γ.set j (some τ)) Γ' g) (hj : j ≠ I.ix) (hl : j < Γ.length) : EvB G I τr (tSeq (tAsg (tCallP I.p (spX G cls τ fx) (tVar I.ix)) (gName j)) tb) Γ Γ' fun ρ => match fx I.x with
    | .rt d => g (ρ.set j d)
    | _ => .bad := by
  intro ρ σ H z m se ok at_ Dn q
  cases ef : fx I.x with
  | nx _ => simp only [ef] at q; exact q.elim
  | bad => simp only [ef] at q; exact q.elim
  | rt d =>
    simp only [ef] at q
    show ∃ v, σ[I.ix]? = some (some v) ∧ (v = .ref I.p.1 ∧ spX G cls τ fx I.p H _)
    refine ⟨_, at_.1, rfl, I.x, I.C, I.d, fun _ => False, hc, hZ, hf, at_.2, fun _ q => q.elim, d, ef, fun v H1 z1 m1 rp st => ?_⟩
    have s1 := stpNew ok st
    have x1 : Ext H H1 := st.ext0
    obtain ⟨m2, se2, l2⟩ := (se.ext (z' := z) x1 fun _ q => q).put j hl (RL.anyz (z' := z) rp ho)
    have s2 : Stp H z m H1 z (fun b => m1 b + m2 b) := s1.drop fun b => by have := l2 b; omega
    exact hb _ _ H1 z _ se2 s2.ok ((at_.ext x1).set hj) Dn (q.step s2)
theorem EvB.setLC {te1 te2 : TE} {f1 f2 : Env → Option D} {tb : TS} {fx : Exc → XFl} {g : Env → XFl} {j : Nat} {cls : List Str} (h1 : EvX G I te1 Γ f1) (h3 : EvX G I te2 Γ f2) (hc : I.x.cls ∈ cls) (hZ : Zc (.ref I.C) I.d I.p.2) (hf : ∃ vs, I.p.2.data = .fields vs) (ho : τ.own = true) (hb : EvB G I τr tb (Γ.set j (some (.N .o τ))) Γ' g) (hj : j ≠ I.ix) (hl : j < Γ.length) : EvB G I τr (tSeq (tAsg (tLst (tL [te1, tCallP I.p (spX G cls τ fx) (tVar I.ix), te2])) (gName j)) tb) Γ Γ' fun ρ => match f1 ρ with
    | some d1 => match fx I.x with
      | .rt d2 => match f2 ρ with
        | some d3 => g (ρ.set j (.list [d1, d2, d3]))
        | none => .bad
      | _ => .bad
    | none => .bad := by
  intro ρ σ H z m se ok at_ Dn q
  cases ef : f1 ρ with
  | none => simp only [ef] at q; exact q.elim
  | some d1 =>
    cases ec : fx I.x with
    | nx _ => simp only [ef, ec] at q; exact q.elim
    | bad => simp only [ef, ec] at q; exact q.elim
    | rt d2 =>
      cases eg : f2 ρ with
      | none => simp only [ef, ec, eg] at q; exact q.elim
      | some d3 =>
        simp only [ef, ec, eg] at q
        refine h1 ρ σ H z m se at_ _ d1 ef fun i1 v1 H1 r1 x1 => ?_
        have at1 := at_.ext x1
        show ∃ v, σ[I.ix]? = some (some v) ∧ (v = .ref I.p.1 ∧ spX G cls τ fx I.p H1 _)
        refine ⟨_, at_.1, rfl, I.x, I.C, I.d, fun _ => False, hc, hZ, hf, at1.2, fun _ q => q.elim, d2, ec, fun v2 H2 z2 m2 rp st => ?_⟩
        have sA := stpExt ok x1
        have s1 := stpNew sA.ok st
        have x2 : Ext H1 H2 := st.ext0
        have at2 := at1.ext x2
        have se2 := (se.ext (z' := z) x1 fun _ q => q).ext (z' := z) x2 fun _ q => q
        refine h3 ρ σ H2 z m se2 at2 _ d3 eg fun i3 v3 H3 r3 x3 => ⟨by show 3 ≤ _; exact small1000 (by decide), fun p hp => ?_⟩
        have s3 := (sA.trans s1).trans (stpExt s1.ok x3)
        have s4 := s3.own (o := .lst [v1, v2, v3]) hp trivial
        have c1 : Rp G.F (upd H3 p (.lst [v1, v2, v3])) z τ d1 v1 fun _ => 0 := ((((r1 z).ofI τ z).ext (z' := z) x2 fun _ q => q).ext (z' := z) x3 fun _ q => q).new hp
        have c2 : Rp G.F (upd H3 p (.lst [v1, v2, v3])) z τ d2 v2 m2 := (RL.ext (RL.anyz (z' := z) rp ho) x3 fun _ q => q).new hp
        have c3 : Rp G.F (upd H3 p (.lst [v1, v2, v3])) z τ d3 v3 fun _ => 0 := ((r3 z).ofI τ z).new hp
        have row : RL G.F (upd H3 p (.lst [v1, v2, v3])) z τ [d1, d2, d3] [v1, v2, v3] m2 := RL.cons' c1 (m2 := m2) (RL.cons' c2 (m2 := fun _ => 0) (RL.cons' c3 (m2 := fun _ => 0) (.nil fun _ => rfl) fun _ => rfl) fun _ => rfl) fun b => by (try simp only); omega
        have rp3 : Rp G.F (upd H3 p (.lst [v1, v2, v3])) z (.N .o τ) (.list [d1, d2, d3]) (.ref p) (fun b => one p b + m2 b) := Rp.mkL (m0 := one p) (m1 := m2) ⟨upd_same, fun _ => rfl⟩ row fun _ => rfl
        obtain ⟨m5, se5, l5⟩ := ((se2.ext (z' := z) x3 fun _ q => q).new (o := .lst [v1, v2, v3]) hp).put j hl rp3
        have s5 : Stp H z m (upd H3 p (.lst [v1, v2, v3])) z (fun b => (one p b + m2 b) + m5 b) := s4.drop fun b => by have := l5 b; (try simp only); omega
        exact hb _ _ _ z _ se5 s5.ok ((at2.ext (x3.upd' hp)).set hj) Dn (q.step s5)
theorem EvB.ret {te : TE} {f : Env → Option D} (h : EvX G I te Γ f) : EvB G I .I (tRet te) Γ Γ' fun ρ => match f ρ with
    | some d => .rt d
    | none => .bad := by
  intro ρ σ H z m se ok at_ Dn q
  cases ef : f ρ with
  | none => simp only [ef] at q; exact q.elim
  | some d =>
    simp only [ef] at q
    exact h ρ σ H z m se at_ _ d ef fun i1 v H1 r1 x1 => q v H1 z (fun _ => 0) (r1 z) ((stpExt ok x1).drop fun b => Nat.zero_le _)
theorem EvB.retL {ta : TA} {f : Env → Option (List D)} (h : EvXs G I ta Γ f) (hn : ∀ ρ ys, f ρ = some ys → ys.length ≤ 1000) : EvB G I (.N .o .I) (tRet (tLst ta)) Γ Γ' fun ρ => match f ρ with
    | some ds => .rt (.list ds)
    | none => .bad := by
  intro ρ σ H z m se ok at_ Dn q
  cases ef : f ρ with
  | none => simp only [ef] at q; exact q.elim
  | some ds =>
    simp only [ef] at q
    refine h ρ σ H z m se at_ _ ds ef fun i1 vs H1 r1 x1 => ⟨?_, fun p hp => ?_⟩
    · have := (r1 z).length
      have := small1000 (hn ρ ds ef)
      omega
    · have s1 := (stpExt ok x1).own (o := .lst vs) hp trivial
      exact q (.ref p) _ z (one p) (Rp.mkL (m0 := one p) (m1 := fun _ => 0) ⟨upd_same, fun _ => rfl⟩ ((r1 z).new hp) fun _ => rfl) (s1.drop fun b => Nat.le_add_right _ _)
def WayX (G : Gx) (I : XI) (τr : Ty) (t : TS) (Γ : TyEnv) (r : Option TyEnv) (f : Env → XFl) : Prop :=
  (∀ Γ', (∀ Γ1, r = some Γ1 → Γ' = Γ1) → EvB G I τr t Γ Γ' f) ∧ (r = none → ∀ ρ ρ', f ρ ≠ .nx ρ')
def EvXT (G : Gx) (I : XI) (tt : TT) (Γ : TyEnv) (f : Env → Option D) : Prop :=
  ∀ (ρ : Env) (σ : L2.St) (H : Hp) (z : Addr → Prop) (m : Ow), SE G.F H z Γ ρ σ m → At G I σ H → ∀ (Q : Bool → Hp → Prop) (b : Bool), f ρ = some (.bool b) → (∀ H', Ext H H' → Q b H') → tt σ H Q
theorem EvX.tst {te : TE} {f : Env → Option D} (h : EvX G I te Γ f) : EvXT G I (tB te) Γ f := fun ρ σ H z m se at_ Q b e q => h ρ σ H z m se at_ _ _ e fun i1 v H1 r1 x1 => ⟨b, r1.bl, q H1 x1⟩
theorem EvXT.fn {tt : TT} {f f' : Env → Option D} (h : EvXT G I tt Γ f) (e : ∀ ρ, f' ρ = f ρ) : EvXT G I tt Γ f' := fun ρ σ H z m se at_ Q b eb q => h ρ σ H z m se at_ Q b (by rw [← e]; exact eb) q
theorem EvXT.and {t u : TT} {f g : Env → Option D} (h1 : EvXT G I t Γ f) (h2 : EvXT G I u Γ g) : EvXT G I (tAnd t u) Γ fun ρ => (f ρ).bind fun d => match d with
    | .bool true => g ρ
    | .bool false => some (.bool false)
    | _ => none := by
  intro ρ σ H z m se at_ Q b e q
  try dsimp only at e
  cases ef : f ρ with
  | none => rw [ef] at e; cases e
  | some d =>
    rw [ef, Option.bind_some] at e
    cases d with
    | bool x =>
      refine h1 ρ σ H z m se at_ _ x ef fun H1 x1 => ?_
      cases x with
      | true => exact h2 ρ σ H1 z m (se.ext x1 fun _ q => q) (at_.ext x1) Q b e fun H2 x2 => q H2 (x1.trans x2)
      | false => cases e; exact q H1 x1
    | _ => cases e
theorem EvXT.or {t u : TT} {f g : Env → Option D} (h1 : EvXT G I t Γ f) (h2 : EvXT G I u Γ g) : EvXT G I (tOr t u) Γ fun ρ => (f ρ).bind fun d => match d with
    | .bool true => some (.bool true)
    | .bool false => g ρ
    | _ => none := by
  intro ρ σ H z m se at_ Q b e q
  try dsimp only at e
  cases ef : f ρ with
  | none => rw [ef] at e; cases e
  | some d =>
    rw [ef, Option.bind_some] at e
    cases d with
    | bool x =>
      refine h1 ρ σ H z m se at_ _ x ef fun H1 x1 => ?_
      cases x with
      | true => cases e; exact q H1 x1
      | false => exact h2 ρ σ H1 z m (se.ext x1 fun _ q => q) (at_.ext x1) Q b e fun H2 x2 => q H2 (x1.trans x2)
    | _ => cases e
theorem EvXT.not {t : TT} {f : Env → Option D} (h1 : EvXT G I t Γ f) : EvXT G I (tNot t) Γ fun ρ => (f ρ).bind fun d => match d with
    | .bool b => some (.bool !b)
    | _ => none := by
  intro ρ σ H z m se at_ Q b e q
  try dsimp only at e
  cases ef : f ρ with
  | none => rw [ef] at e; cases e
  | some d =>
    rw [ef, Option.bind_some] at e
    cases d with
    | bool x =>
      cases e
      exact h1 ρ σ H z m se at_ _ x ef fun H1 x1 => q H1 x1
    | _ => cases e
theorem EvB.ite {tt : TT} {ta tb : TS} {f : Env → Option D} {fa g : Env → XFl} {ra : Option TyEnv} (h : EvXT G I tt Γ f) (ha : WayX G I τr ta Γ ra fa) (hr : ra = some Γ ∨ ra = none) (hb : EvB G I τr tb Γ Γ' g) : EvB G I τr (tSeq (tIfS tt ta tNext) tb) Γ Γ' fun ρ => match f ρ with
    | some (.bool true) => (fa ρ).go g
    | some (.bool false) => g ρ
    | _ => .bad := by
  intro ρ σ H z m se ok at_ Dn q
  cases ef : f ρ with
  | none => simp only [ef] at q; exact q.elim
  | some d =>
    simp only [ef] at q
    cases d with
    | bool b =>
      refine h ρ σ H z m se at_ _ b ef fun H1 x1 => ?_
      have s1 := stpExt ok x1
      have se1 := se.ext (z' := z) x1 fun _ q => q
      cases b with
      | false => exact hb ρ σ H1 z m se1 s1.ok (at_.ext x1) Dn (FlB.step q s1)
      | true =>
        have q := FlB.step q s1
        refine ha.1 Γ (fun Γ1 e => by rcases hr with e' | e' <;> rw [e'] at e <;> cases e; rfl) ρ σ H1 z m se1 s1.ok (at_.ext x1) _ ?_
        cases ea : fa ρ with
        | nx ρ' =>
          rw [ea] at q
          exact fun σ2 H2 z2 m2 se2 st2 at2 => hb ρ' σ2 H2 z2 m2 se2 st2.ok at2 Dn (FlB.step q st2)
        | rt y => rw [ea] at q; exact q
        | bad => rw [ea] at q; exact q
    | _ => exact q.elim
theorem ckXE_tst0 (hx : XOkF G lv F.ex) (hN : F.N = G.N) (hv : G.mg "ValueError" = none) (T : ExcK G.K I.C) (hC : G.mg I.x.cls = some (.ref I.C)) (hI : I.x.cls ∈ F.ex.cls) (e : XE) (u : Expr) (h : ckXE F sc I.ix Γ e u = true) (hp : (plainT u || isEqX e) = true) :
    ∃ te, (∀ X, GoodP G lv sc X I.p I.C I.d → PT X u (tB te)) ∧ EvX G I te Γ (xev I.x e) := by
  rcases Bool.or_eq_true_iff.mp hp with hp | hp
  · obtain ⟨te, p1, e1⟩ := ckXE_ok hx hN hv T hC hI e u h
    exact ⟨te, fun X g => ((p1 X g).ptx hp).1, e1⟩
  · cases e with
    | eq a b =>
      unfold ckXE at h
      split at h <;> first | (cases h; done) | skip
      simp only [Bool.and_eq_true, Bool.not_eq_true'] at h
      obtain ⟨⟨⟨⟨h1, h2⟩, hb⟩, s1⟩, s2⟩ := h
      obtain ⟨ta, p1, e1⟩ := ckXE_ok hx hN hv T hC hI a _ h1
      obtain ⟨tb, p2, e2⟩ := ckXE_ok hx hN hv T hC hI b _ h2
      refine ⟨_, fun X g => ?_, (EvX.eq e1 e2).fn fun ρ => by rw [xev]⟩
      have hu : X.A.units + 64 < cLine := by have := g.room.un; omega
      rw [← g.K]
      exact pt_cmpR (op_eqD (X := X) hu) (p1 X g) (p2 X g) hb
    | _ => cases hp
theorem tst_of0 {e : XE} {u : Expr} (h : ∃ te, (∀ X, GoodP G lv sc X I.p I.C I.d → PT X u (tB te)) ∧ EvX G I te Γ (xev I.x e)) (n : ∀ op vs p, u ≠ .BoolOp op vs p) : ∃ tt, (∀ X, GoodP G lv sc X I.p I.C I.d → PTx X u tt) ∧ EvXT G I tt Γ (xev I.x e) := by
  obtain ⟨te, p1, e1⟩ := h
  exact ⟨tB te, fun X g => PTx.of (p1 X g) n, e1.tst⟩
theorem ckXE_nobool {e : XE} {u : Expr} (h : ckXE F sc I.ix Γ e u = true) (hp : (plainT u || isEqX e) = true) : ∀ op vs p, u ≠ .BoolOp op vs p := by
  intro op vs p e'
  subst e'
  rcases Bool.or_eq_true_iff.mp hp with hp | hp
  · cases hp
  · cases e with
    | eq a b => unfold ckXE at h; cases h
    | _ => cases hp
theorem ckXE_tst (hx : XOkF G lv F.ex) (hN : F.N = G.N) (hv : G.mg "ValueError" = none) (T : ExcK G.K I.C) (hC : G.mg I.x.cls = some (.ref I.C)) (hI : I.x.cls ∈ F.ex.cls) : ∀ (e : XE) (u : Expr), ckXE F sc I.ix Γ e u = true → tstB e u = true →
    ∃ tt, (∀ X, GoodP G lv sc X I.p I.C I.d → PTx X u tt) ∧ EvXT G I tt Γ (xev I.x e)
  | .and a b, u, h, hp => by
    unfold ckXE at h
    split at h <;> first | (cases h; done) | skip
    rw [Bool.and_eq_true] at h
    unfold tstB at hp
    rw [Bool.and_eq_true] at hp
    obtain ⟨ta, p1, e1⟩ := ckXE_tst hx hN hv T hC hI a _ h.1 hp.1
    obtain ⟨tb, p2, e2⟩ := ckXE_tst hx hN hv T hC hI b _ h.2 hp.2
    refine ⟨_, fun X g => ?_, (EvXT.and e1 e2).fn fun ρ => by rw [xev] <;> rfl⟩
    have hw := pw_and (p1 X g).1 (and_tail (p2 X g))
    exact ⟨hw.pt, fun op vs p e => by cases e; exact hw⟩
  | .or a b, u, h, hp => by
    unfold ckXE at h
    split at h <;> first | (cases h; done) | skip
    rw [Bool.and_eq_true] at h
    unfold tstB at hp
    rw [Bool.and_eq_true] at hp
    obtain ⟨ta, p1, e1⟩ := ckXE_tst hx hN hv T hC hI a _ h.1 hp.1
    obtain ⟨tb, p2, e2⟩ := ckXE_tst hx hN hv T hC hI b _ h.2 hp.2
    refine ⟨_, fun X g => ?_, (EvXT.or e1 e2).fn fun ρ => by rw [xev] <;> rfl⟩
    have hw := pw_or (p1 X g).1 (or_tail (p2 X g))
    exact ⟨hw.pt, fun op vs p e => by cases e; exact hw⟩
  | .not a, u, h, hp => by
    unfold ckXE at h
    split at h <;> first | (cases h; done) | skip
    unfold tstB at hp
    obtain ⟨ta, p1, e1⟩ := ckXE_tst hx hN hv T hC hI a _ h hp
    exact ⟨_, fun X g => PTx.of (pt_not (p1 X g).1) (fun _ _ _ e => nomatch e), (EvXT.not e1).fn fun ρ => by rw [xev] <;> rfl⟩
  | .k t, u, h, hp => tst_of0 (ckXE_tst0 hx hN hv T hC hI _ u h (by unfold tstB at hp; exact hp)) (ckXE_nobool h (by unfold tstB at hp; exact hp))
  | .v i, u, h, hp => tst_of0 (ckXE_tst0 hx hN hv T hC hI _ u h (by unfold tstB at hp; exact hp)) (ckXE_nobool h (by unfold tstB at hp; exact hp))
  | .isa ns yes no, u, h, hp => tst_of0 (ckXE_tst0 hx hN hv T hC hI _ u h (by unfold tstB at hp; exact hp)) (ckXE_nobool h (by unfold tstB at hp; exact hp))
  | .fld f, u, h, hp => tst_of0 (ckXE_tst0 hx hN hv T hC hI _ u h (by unfold tstB at hp; exact hp)) (ckXE_nobool h (by unfold tstB at hp; exact hp))
  | .tup es, u, h, hp => tst_of0 (ckXE_tst0 hx hN hv T hC hI _ u h (by unfold tstB at hp; exact hp)) (ckXE_nobool h (by unfold tstB at hp; exact hp))
  | .eq a b, u, h, hp => tst_of0 (ckXE_tst0 hx hN hv T hC hI _ u h (by unfold tstB at hp; exact hp)) (ckXE_nobool h (by unfold tstB at hp; exact hp))
  | .isK k a, u, h, hp => tst_of0 (ckXE_tst0 hx hN hv T hC hI _ u h (by unfold tstB at hp; exact hp)) (ckXE_nobool h (by unfold tstB at hp; exact hp))
theorem ckXB_ok (hx : XOkF G lv F.ex) (hN : F.N = G.N) (hv : G.mg "ValueError" = none) (T : ExcK G.K I.C) (hC : G.mg I.x.cls = some (.ref I.C)) (hI : I.x.cls ∈ F.ex.cls) (hZ : Zc (.ref I.C) I.d I.p.2) (hf : ∃ vs, I.p.2.data = .fields vs) :
    ∀ (b : XB) (Γ : TyEnv) (ss : List Stmt) (r : Option TyEnv), ckXB F sc I.ix τr b Γ ss = some r → ∃ ts, (∀ X, GoodP G lv sc X I.p I.C I.d → PSs X ss ts) ∧ WayX G I τr ts Γ r (xrun I.x b)
  | .nil, Γ, ss, r, h => by
    unfold ckXB at h
    split at h <;> first | (cases h; done) | skip
    cases h
    exact ⟨tNext, fun X g => pss_nil, fun Γ' e => by rw [e _ rfl]; exact EvB.nil.fn fun ρ => by rw [xrun], fun e => by cases e⟩
  | .set j e b, Γ, ss, r, h => by
    unfold ckXB at h
    split at h <;> first | (cases h; done) | skip
    split at h
    · rename_i q
      obtain ⟨q1, q2, q3, q4, q5, q6⟩ := q
      obtain ⟨te, p1, e1⟩ := ckXE_ok hx hN hv T hC hI e _ q4
      obtain ⟨tb, p2, e2, e3⟩ := ckXB_ok hx hN hv T hC hI hZ hf b _ _ r h
      obtain ⟨l1, l2⟩ := locB_inv q1
      refine ⟨_, fun X g => pss_cons (ps_set g.nd (by rw [g.N, ← hN]; exact l1) (by rw [g.sc]; exact l2) (p1 X g) (sw_none q5 q6) (.inl (g.fn _))) (p2 X g), fun Γ' e => (EvB.set e1 (e2 Γ' e) q2 q3).fn fun ρ => by rw [xrun] <;> rfl, fun e ρ ρ' => ?_⟩
      rw [xrun]
      cases xev I.x ‹XE› ρ with
      | none => exact fun e => by cases e
      | some d => exact e3 e _ ρ'
    · cases h
  | .setL j es b, Γ, ss, r, h => by
    unfold ckXB at h
    split at h <;> first | (cases h; done) | skip
    split at h
    · rename_i q
      obtain ⟨q1, q2, q3, q4, q5⟩ := q
      obtain ⟨ts, p1, e1⟩ := ckXEs_ok hx hN hv T hC hI es _ q4
      obtain ⟨tb, p2, e2, e3⟩ := ckXB_ok hx hN hv T hC hI hZ hf b _ _ r h
      obtain ⟨l1, l2⟩ := locB_inv q1
      have ln : ∀ ρ ys, xevs I.x es ρ = some ys → ys.length ≤ 1000 := fun ρ ys hy => by
        have := xevs_len es ρ ys hy
        have := ckXEs_len es _ q4
        omega
      refine ⟨_, fun X g => pss_cons (ps_set g.nd (by rw [g.N, ← hN]; exact l1) (by rw [g.sc]; exact l2) (pe_lst (p1 X g).pa) rfl (.inl (g.fn _))) (p2 X g), fun Γ' e => (EvB.setL e1 ln (e2 Γ' e) q2 q3).fn fun ρ => by rw [xrun] <;> rfl, fun e ρ ρ' => ?_⟩
      rw [xrun]
      cases xevs I.x es ρ with
      | none => exact fun e => by cases e
      | some d => exact e3 e _ ρ'
    · cases h
  | .setC j f n fb b, Γ, ss, r, h => by
    unfold ckXB at h
    split at h <;> first | (cases h; done) | skip
    split at h
    · rename_i q
      obtain ⟨q1, q2, q3, rfl, q5, q6, q7, q8⟩ := q
      obtain ⟨l1, l2⟩ := locB_inv q1
      rename_i y p3 f0 p2 e0 p1 p0 ss0
      have go : ∀ l, (f0, n, fb, l) ∈ F.ex.fns → ckXB F sc I.ix τr b (Γ.set j (some (xTy l))) ss0 = some r → ∃ ts, (∀ X, GoodP G lv sc X I.p I.C I.d → PSs X (.Assign [.Name y p3] (.Call (.Name f0 p2) [e0] [] p1) p0 :: ss0) ts) ∧ WayX G I τr ts Γ r (xrun I.x (.setC j f0 n fb b)) := fun l hm h => by
        obtain ⟨tb, p2, e2, e3⟩ := ckXB_ok hx hN hv T hC hI hZ hf b _ _ r h
        obtain ⟨a, fd, ps, k, f1, f2, f3, f4, f5, f6⟩ := hx.fn _ _ _ _ hm
        have ho : (xTy l).own = true := by cases l <;> rfl
        refine ⟨_, fun X g => pss_cons (ps_set g.nd (by rw [g.N, ← hN]; exact l1) (by rw [g.sc]; exact l2) (te := tCallP I.p (spX G F.ex.cls (xTy l) fun x => xrun x fb (List.replicate n .none)) (tVar I.ix)) ?_ rfl (.inl (g.fn _))) (p2 X g), fun Γ' e => (EvB.setC hI hZ hf ho (e2 Γ' e) q2 q3).fn fun ρ => by rw [xrun] <;> rfl, fun e ρ ρ' => ?_⟩
        · have gg := g.gx
          subst gg
          exact pe_callP f6 (g.room.mono f5) g.pin.mem (g.gl q5) f1 f2 f3 f4 (isNm_pe hN q7 g) q6 (star_of q8 _ _)
        · rw [xrun]
          cases xrun I.x fb (List.replicate n .none) with
          | rt d => exact e3 e _ ρ'
          | nx _ => exact fun e => by cases e
          | bad => exact fun e => by cases e
      split at h
      · rename_i hm
        exact go true hm h
      · split at h
        · rename_i hm
          exact go false hm h
        · cases h
    · cases h
  | .setLC j e1 f n fb e2 b, Γ, ss, r, h => by
    unfold ckXB at h
    split at h <;> first | (cases h; done) | skip
    split at h
    · rename_i q
      obtain ⟨q1, q2, q3, rfl, q5, q6, q7, q8, q9, q10, q11, q12⟩ := q
      obtain ⟨l1, l2⟩ := locB_inv q1
      obtain ⟨te1, w1, w2⟩ := ckXE_ok hx hN hv T hC hI e1 _ q11
      obtain ⟨te2, w3, w4⟩ := ckXE_ok hx hN hv T hC hI e2 _ q12
      rename_i y p3 x1 f0 p2 e0 p1 x2 p4 p0 ss0
      have go : ∀ l, (f0, n, fb, l) ∈ F.ex.fns → ckXB F sc I.ix τr b (Γ.set j (some (.N .o (xTy l)))) ss0 = some r → ∃ ts, (∀ X, GoodP G lv sc X I.p I.C I.d → PSs X (.Assign [.Name y p3] (.List [x1, .Call (.Name f0 p2) [e0] [] p1, x2] p4) p0 :: ss0) ts) ∧ WayX G I τr ts Γ r (xrun I.x (.setLC j e1 f0 n fb e2 b)) := fun l hm h => by
        obtain ⟨tb, p2, e2', e3⟩ := ckXB_ok hx hN hv T hC hI hZ hf b _ _ r h
        obtain ⟨a, fd, ps, k, f1, f2, f3, f4, f5, f6⟩ := hx.fn _ _ _ _ hm
        have ho : (xTy l).own = true := by cases l <;> rfl
        refine ⟨_, fun X g => pss_cons (ps_set g.nd (by rw [g.N, ← hN]; exact l1) (by rw [g.sc]; exact l2) (te := tLst (tL [te1, tCallP I.p (spX G F.ex.cls (xTy l) fun x => xrun x fb (List.replicate n .none)) (tVar I.ix), te2])) (pe_lst (PEs.cons q9 (w1 X g) (PEs.cons rfl ?_ (PEs.cons q10 (w3 X g) .nil))).pa) rfl (.inl (g.fn _))) (p2 X g), fun Γ' e => (EvB.setLC w2 w4 hI hZ hf ho (e2' Γ' e) q2 q3).fn fun ρ => by rw [xrun] <;> rfl, fun e ρ ρ' => ?_⟩
        · have gg := g.gx
          subst gg
          exact pe_callP f6 (g.room.mono f5) g.pin.mem (g.gl q5) f1 f2 f3 f4 (isNm_pe hN q7 g) q6 (star_of q8 _ _)
        · rw [xrun]
          cases xev I.x e1 ρ with
          | none => exact fun e => by cases e
          | some d1 =>
            cases xrun I.x fb (List.replicate n .none) with
            | rt d =>
              cases xev I.x e2 ρ with
              | none => exact fun e => by cases e
              | some d3 => exact e3 e _ ρ'
            | nx _ => exact fun e => by cases e
            | bad => exact fun e => by cases e
      split at h
      · rename_i hm
        exact go true hm h
      · split at h
        · rename_i hm
          exact go false hm h
        · cases h
    · cases h
  | .ret e, Γ, ss, r, h => by
    unfold ckXB at h
    split at h <;> first | (cases h; done) | skip
    split at h
    · rename_i q
      cases h
      obtain ⟨q1, rfl⟩ := q
      obtain ⟨te, p1, e1⟩ := ckXE_ok hx hN hv T hC hI e _ q1
      refine ⟨_, fun X g => pss_one (ps_ret (p1 X g)), fun Γ' _ => (EvB.ret e1).fn fun ρ => by rw [xrun] <;> rfl, fun _ ρ ρ' => ?_⟩
      rw [xrun]
      cases xev I.x ‹XE› ρ <;> exact fun e => by cases e
    · cases h
  | .retL es, Γ, ss, r, h => by
    unfold ckXB at h
    split at h <;> first | (cases h; done) | skip
    split at h
    · rename_i q
      cases h
      obtain ⟨q1, q2, rfl⟩ := q
      obtain ⟨ts, p1, e1⟩ := ckXEs_ok hx hN hv T hC hI es _ q1
      have ln : ∀ ρ ys, xevs I.x es ρ = some ys → ys.length ≤ 1000 := fun ρ ys hy => by
        have := xevs_len es ρ ys hy
        have := ckXEs_len es _ q1
        omega
      refine ⟨_, fun X g => pss_one (ps_ret (pe_lst (p1 X g).pa)), fun Γ' _ => (EvB.retL e1 ln).fn fun ρ => by rw [xrun] <;> rfl, fun _ ρ ρ' => ?_⟩
      rw [xrun]
      cases xevs I.x es ρ <;> exact fun e => by cases e
    · cases h
  | .ite t a b, Γ, ss, r, h => by
    unfold ckXB at h
    split at h <;> first | (cases h; done) | skip
    split at h
    · rename_i q
      obtain ⟨q1, q2⟩ := q
      obtain ⟨te, p1, e1⟩ := ckXE_tst hx hN hv T hC hI t _ q1 q2
      rename_i u0 v0 p0 ss0
      have go : ∀ ra, (ra = some Γ ∨ ra = none) → ckXB F sc I.ix τr a Γ v0 = some ra → ckXB F sc I.ix τr b Γ ss0 = some r → ∃ ts, (∀ X, GoodP G lv sc X I.p I.C I.d → PSs X (.If u0 v0 [] p0 :: ss0) ts) ∧ WayX G I τr ts Γ r (xrun I.x (.ite t a b)) := fun ra hr ha h => by
        obtain ⟨ta, pa, wa⟩ := ckXB_ok hx hN hv T hC hI hZ hf a _ _ ra ha
        obtain ⟨tb, pb, e2, e3⟩ := ckXB_ok hx hN hv T hC hI hZ hf b _ _ r h
        refine ⟨_, fun X g => pss_cons (ps_if (p1 X g).1 (pa X g) pss_nil) (pb X g), fun Γ' e => (EvB.ite e1 wa hr (e2 Γ' e)).fn fun ρ => by rw [xrun] <;> rfl, fun e ρ ρ' => ?_⟩
        rw [xrun]
        split
        · cases xrun I.x a ρ with
          | nx ρ1 => exact e3 e ρ1 ρ'
          | rt _ => exact fun e => by cases e
          | bad => exact fun e => by cases e
        · exact e3 e ρ ρ'
        · exact fun e => by cases e
      split at h
      · rename_i Γa ea
        split at h
        · rename_i eq
          subst eq
          exact go _ (.inl rfl) ea h
        · cases h
      · rename_i ea
        exact go _ (.inr rfl) ea h
      · cases h
    · cases h
end En

set_option Elab.async false
set_option linter.all false
set_option autoImplicit false
set_option maxRecDepth 100000
set_option maxHeartbeats 1000000
namespace En
open PySem PySem.Spec PyProof.Rows L2 RZ
variable {G : Gx} {lv : Nat} {F : FI} {c : Cg} {sc : Scope} {Γ Γ' Γ1 Γ2 Γb : TyEnv} {x : Expr} {τ τ' τr t : Ty} {W : WX} {X : Cx} {i n : Nat}

/-! ## the check of a statement -/
def setB (N : List Str) (sc : Scope) (tg : Tg) (tgx x : Expr) : Bool := match tg, tgx with
  | .s i, .Name y _ => locB N sc i y && noComp x
  | .t is, .Tuple es _ _ => locBs N sc is es && !isTuple x && noComp x
  | _, _ => false
def muNm : Mu → Str
  | .app => "append"
  | .ext => "extend"
  | .ins => "insert"
  | .clr => "clear"
def muTs : Mu → Ty → List Ty
  | .app, t => [t]
  | .ext, t => [.N .o t]
  | .ins, t => [.I, t]
  | .clr, _ => []
def ckMu (F : FI) (m : Mu) (i : Nat) (p es : Es) (sc : Scope) (Γ : TyEnv) : Stmt → Option TyEnv
  | .Expr (.Call (.Attribute o nm apos) xs [] cpos) _ => match pathOf o with
    | some (x, _, l) => match Γ[i]? with
      | some (some τ) => match pthT p.sh τ with
        | some (.N .o t) => match ckEs F es sc Γ xs with
          | some (τs, Γ1) => if slotB F.N sc i x = true ∧ nm = muNm m ∧ ckKs F p sc Γ l = true ∧ (apos.endLine == cpos.line) = true ∧ xs.length ≤ 5 ∧ τ.st = true ∧ Γ1[i]? = some (some τ) ∧ TyEnv.st Γ1 = true ∧
              ((τs.zip (muTs m t)).all fun p => sub p.1 p.2) = true ∧ τs.length = (muTs m t).length then some Γ1 else none
          | none => none
        | _ => none
      | _ => none
    | none => none
  | _ => none
def ckSub (F : FI) (i : Nat) (p : Es) (ix e : E) (sc : Scope) (Γ : TyEnv) : Stmt → Option TyEnv
  | .Assign [.Subscript o k _] x _ => match ckE F e sc Γ x with
    | some (τe, Γ1) => match pathOf o with
      | some (y, _, l) => match Γ1[i]? with
        | some (some τ) => match pthT p.sh τ with
          | some (.N .o t) => match ckE F ix sc Γ1 k with
            | some (_, Γ2) => if Γ2 = Γ1 ∧ slotB F.N sc i y = true ∧ ckKs F p sc Γ1 l = true ∧ noSlice k = true ∧ τ.st = true ∧ TyEnv.st Γ1 = true ∧ sub τe t = true ∧ noComp x = true then some Γ1 else none
            | none => none
          | _ => none
        | _ => none
      | none => none
    | none => none
  | _ => none
def ckDSub (F : FI) (i : Nat) (p : Es) (ix e : E) (sc : Scope) (Γ : TyEnv) : Stmt → Option TyEnv
  | .Assign [.Subscript o k _] x _ => match ckE F e sc Γ x with
    | some (τe, Γ1) => match pathOf o with
      | some (y, _, l) => match Γ1[i]? with
        | some (some τ) => match pthT p.sh τ with
          | some (.N .o t) => match ckE F ix sc Γ1 k with
            | some (_, Γ2) => if Γ2 = Γ1 ∧ slotB F.N sc i y = true ∧ ckKs F p sc Γ1 l = true ∧ noSlice k = true ∧ τ.st = true ∧ TyEnv.st Γ1 = true ∧ sub τe t = true ∧ noComp x = true then some Γ1 else none
            | none => none
          | _ => none
        | _ => none
      | none => none
    | none => none
  | _ => none
/-- d.setdefault(k, []), d[k] -/
def sdHead : Bool → Expr → Option (Str × Expr)
  | true, .Call (.Attribute (.Name y _) nm apos) [kx, .List [] _] [] cpos => if nm = "setdefault" ∧ (apos.endLine == cpos.line) = true ∧ noStar kx = true then some (y, kx) else none
  | false, .Subscript (.Name y _) kx _ => if noSlice kx = true then some (y, kx) else none
  | _, _ => none
def ckSd (F : FI) (nw : Bool) (i : Nat) (k e : E) (sc : Scope) (Γ : TyEnv) : Stmt → Option TyEnv
  | .Expr (.Call (.Attribute o nm apos) xs [] cpos) _ => match Γ[i]? with
    | some (some (.N .o (.N .o t))) => match sdHead nw o with
      | some (y, kx) => match ckE F k sc Γ kx with
        | some (_, Γ0) => match ckEs F (.cons e .nil) sc (Γ.set i none) xs with
          | some ([τe], Γ1) => if Γ0 = Γ ∧ Γ1 = Γ.set i none ∧ slotB F.N sc i y = true ∧ nm = "append" ∧ (apos.endLine == cpos.line) = true ∧ xs.length ≤ 5 ∧ TyEnv.st Γ = true ∧ sub τe t = true then some Γ else none
          | _ => none
        | none => none
      | none => none
    | _ => none
  | _ => none
def ckPop (F : FI) (i : Nat) (es : Es) (sc : Scope) (Γ : TyEnv) : Expr → Option (Ty × TyEnv)
  | .Call (.Attribute (.Name x _) nm apos) xs [] cpos => match Γ[i]? with
    | some (some (.N .o t)) => match ckEs F es sc Γ xs with
      | some (_, Γ1) => if slotB F.N sc i x = true ∧ nm = "pop" ∧ (apos.endLine == cpos.line) = true ∧ xs.length ≤ 5 ∧ Γ1[i]? = some (some (.N .o t)) ∧ TyEnv.st Γ1 = true then some (t, Γ1) else none
      | none => none
    | _ => none
  | _ => none
def meet1 : Option Ty → Option Ty → Option Ty
  | some a, some b => lubT a b
  | _, _ => none
def meetS : TyEnv → TyEnv → TyEnv
  | a :: as, b :: bs => meet1 a b :: meetS as bs
  | _, _ => []
def joinR (cl : List Nat) : Option TyEnv → Option TyEnv → Option (Option TyEnv)
  | none, none => some none
  | some a, none => some (some (clearT cl a))
  | none, some b => some (some (clearT cl b))
  | some a, some b => let u := meetS (clearT cl a) (clearT cl b)
    if leS u (clearT cl a) && leS u (clearT cl b) then some (some u) else none
def fixL (step : TyEnv → Option (Option TyEnv)) (cl : List Nat) : Nat → TyEnv → Option TyEnv
  | 0, _ => none
  | n + 1, Γl => match step Γl with
    | some (some Γe) => if leS Γl (clearT cl Γe) then some Γl else fixL step cl n (meetS Γl (clearT cl Γe))
    | some none => some Γl
    | none => none
theorem fixL_inv {step : TyEnv → Option (Option TyEnv)} {cl : List Nat} : ∀ {n : Nat} {Γ0 Γl : TyEnv}, fixL step cl n Γ0 = some Γl → ∃ r, step Γl = some r ∧ ∀ Γe, r = some Γe → leS Γl (clearT cl Γe) = true
  | 0, _, _, h => by cases h
  | n + 1, Γ0, Γl, h => by
    unfold fixL at h
    split at h
    · rename_i Γe e
      split at h
      · rename_i q
        cases h
        exact ⟨_, e, fun Γe' e' => by cases e'; exact q⟩
      · exact fixL_inv h
    · rename_i e
      cases h
      exact ⟨_, e, fun _ e' => by cases e'⟩
    · cases h
def B.isNil : B → Bool
  | .nil => true
  | _ => false
def bkOf (sc : Scope) : ScopeKind := if sc.kind.isAnnotationScope then .function else sc.kind
/-- a, b = x, y: the names are stored one by one -/
def parB (N : List Str) (sc : Scope) (i j : Nat) (x y : Str) (px py : Pos) (a b : Expr) : Bool :=
  decide (N[i]? = some x) && decide (N[j]? = some y) && decide (sc.names.lookup x = some .local) && decide (sc.names.lookup y = some .local) && !(x == y) && (py.line == px.line) && noStar a && noStar b && !(foldedForSure 8 a && foldedForSure 8 b) && !(constantsAlone 8 a && constantsAlone 8 b) && (bkOf sc == .function) && noComp a
/-- statements whose slots are as they were where something is raised -/
def isAt0 : S → Bool
  | .set _ _ => true
  | .expr _ => true
  | _ => false
def isAt : S → Bool
  | .ite _ (.cons a .nil) (.cons b .nil) [] => isAt0 a && isAt0 b
  | s => isAt0 s
def exmOk (t : List (Str × Str × Bool)) (m : Str) (yes no cls : List Str) : Bool := (yes.all fun n => decide ((n, m, true) ∈ t) && decide (n ∈ cls)) && no.all fun n => decide ((n, m, false) ∈ t)
mutual
def ckS (F : FI) (τr : Ty) : S → Scope → TyEnv → TyEnv → Stmt → Option (Option TyEnv)
  | .set tg e, sc, _, Γ, x0 => match x0 with
    | .Assign [tgx] x _ => (match ckE F e sc Γ x with
    | some (τ, Γ1) => if setB F.N sc tg tgx x = true ∧ inB Γ1 tg.slots = true then some (some (tg.ty τ Γ1)) else none
    | none => none)
    | _ => none
  | .mu m i p es, sc, _, Γ, st => (ckMu F m i p es sc Γ st).map some
  | .sub i p ix e, sc, _, Γ, st => (ckSub F i p ix e sc Γ st).map some
  | .dsub i p ix e, sc, _, Γ, st => (ckDSub F i p ix e sc Γ st).map some
  | .sdapp nw i k e, sc, _, Γ, st => (ckSd F nw i k e sc Γ st).map some
  | .popAt j i es, sc, _, Γ, x0 => match x0 with
    | .Assign [.Name y _] x _ => (match ckPop F i es sc Γ x with
    | some (t, Γ1) => if locB F.N sc j y = true ∧ j < Γ1.length ∧ i ≠ j then some (some (Γ1.set j (some t))) else none
    | none => none)
    | _ => none
  | .popX i es, sc, _, Γ, x0 => match x0 with
    | .Expr x _ => (match ckPop F i es sc Γ x with
    | some (_, Γ1) => some (some Γ1)
    | none => none)
    | _ => none
  | .ite t a b cl, sc, Γb, Γ, x0 => match x0 with
    | .If u v w _ => (match ckE F t sc Γ u with
    | some (_, Γ0) => if Γ0 = Γ ∧ noIf u = true then match ckB F τr a sc Γb Γ v, ckB F τr b sc Γb Γ w with
        | some ra, some rb => joinR cl ra rb
        | _, _ => none
      else none
    | none => none)
    | _ => none
  | .for it tg b cl, sc, Γb, Γ, x0 => match x0 with
    | .For tgx x body [] _ => (match ckI F it sc true Γ tgx x with
    | some (τi, Γ1) => match fixL (fun Γl => ckB F τr b sc Γl (tg.ty τi Γl) body) cl 6 (clearT cl Γ1) with
      | some Γl => if leS Γl (clearT cl Γ1) = true ∧ leS Γl (clearT cl Γl) = true ∧ setB F.N sc tg tgx (.Constant .none 0 ⟨0, 0, 0, 0⟩) = true ∧ inB Γl tg.slots = true ∧ noSet x = true then some (some Γl) else none
      | none => none
    | none => none)
    | _ => none
  | .forE e tg b cl, sc, Γb, Γ, x0 => match x0 with
    | .For tgx (.Call (.Attribute (.Call f (y :: ys) ks p1) nm apos) [] [] cpos) body [] _ => (match ckE F e sc Γ (.Call f (y :: ys) ks p1) with
    | some (.N .o t, Γ1) => match fixL (fun Γl => ckB F τr b sc Γl (tg.ty (fzT t) Γl) body) cl 6 (clearT cl Γ1) with
      | some Γl => if sub (.N .o t) (.N .o (fzT t)) = true ∧ (fzT t).no = true ∧ okT true (fzT t) = true ∧ nm = "items" ∧ (apos.endLine == cpos.line) = true ∧ isTuple tgx = true ∧ leS Γl (clearT cl Γ1) = true ∧ leS Γl (clearT cl Γl) = true ∧ setB F.N sc tg tgx (.Constant .none 0 ⟨0, 0, 0, 0⟩) = true ∧ inB Γl tg.slots = true then some (some Γl) else none
      | none => none
    | _ => none)
    | _ => none
  | .forO i tg b cl, sc, Γb, Γ, x0 => match x0 with
    | .For tgx (.Name y _) body [] _ => (match fixL (fun Γl => ckB F τr b sc Γl (tg.ty .I Γl) body) cl 6 (clearT cl Γ) with
      | some Γl => if Γl[i]? = some (some (.N .o .I)) ∧ slotB F.N sc i y = true ∧ i ∉ tg.slots ∧ frB i b = true ∧ leS Γl (clearT cl Γ) = true ∧ leS Γl (clearT cl Γl) = true ∧ setB F.N sc tg tgx (.Constant .none 0 ⟨0, 0, 0, 0⟩) = true ∧ inB Γl tg.slots = true then some (some Γl) else none
      | none => none)
    | _ => none
  | .forR it i tg b cl, sc, Γb, Γ, x0 => match x0 with
    | .For tgx x body [] _ => (match rowT F it i sc true Γ tgx x with
    | some τi => match fixL (fun Γl => ckB F τr b sc Γl (tg.ty τi Γl) body) cl 6 (clearT cl Γ) with
      | some Γl => if leS Γl (clearT cl Γ) = true ∧ leS Γl (clearT cl Γl) = true ∧ setB F.N sc tg tgx (.Constant .none 0 ⟨0, 0, 0, 0⟩) = true ∧ inB Γl tg.slots = true ∧ noSet x = true then some (some Γl) else none
      | none => none
    | none => none)
    | _ => none
  | .while _ t b cl, sc, Γb, Γ, x0 => match x0 with
    | .While u body [] _ => (match fixL (fun Γl => ckB F τr b sc Γl Γl body) cl 6 (clearT cl Γ) with
      | some Γl => match ckE F t sc Γl u with
        | some (_, Γ0) => if Γ0 = Γl ∧ noIf u = true ∧ leS Γl (clearT cl Γ) = true ∧ leS Γl (clearT cl Γl) = true then some (some Γl) else none
        | none => none
      | none => none)
    | _ => none
  | .ret e, sc, _, Γ, x0 => match x0 with
    | .Return (some x) _ => (match ckE F e sc Γ x with
    | some (τ, _) => if sub τ τr = true then some none else none
    | none => none)
    | _ => none
  | .expr e, sc, _, Γ, x0 => match x0 with
    | .Expr x _ => (match ckE F e sc Γ x with
    | some (_, Γ1) => if noComp x = true ∧ noLC x = true then some (some Γ1) else none
    | none => none)
    | _ => none
  | .brk, _, Γb, Γ, x0 => match x0 with
    | .Break _ => (if leS Γb Γ = true then some none else none)
    | _ => none
  | .unr, _, _, _, _ => some none
  | .co _ _, _, _, _, _ => none
  | .callM j p i es, sc, _, Γ, st => (ckCM F j p i es sc Γ st).map some
  | .tryR bb yes no k, sc, Γb, Γ, x0 => match bb, x0 with
    | .cons s .nil, .Try [st] [.ExceptHandler (some (.Name m _)) none [.Return (some (.Constant q _ _)) _] _] [] [] _ => (if isAt s = true ∧ glB sc m = true ∧ dbg m = false ∧ exmOk F.ex.exm m yes no F.ex.cls = true ∧ yes.isEmpty = false ∧ cEq k q = true then
      match ckS F τr s sc Γb Γ st with
      | some (some Γ1) => some (some Γ1)
      | _ => none
    else none)
    | _, _ => none
  | .par i j es, sc, _, Γ, x0 => match x0 with
    | .Assign [.Tuple [.Name x px, .Name y py] _ _] (.Tuple [a, b] _ _) _ => (match ckEs F es sc Γ [a, b] with
    | some ([τ1, τ2], Γ1) => if parB F.N sc i j x y px py a b = true ∧ i ≠ j ∧ i < Γ1.length ∧ j < Γ1.length then some (some ((Γ1.set i (some τ1)).set j (some τ2))) else none
    | _ => none)
    | _ => none
  | .raise cls, sc, _, _, x0 => match x0 with
    | .Raise (some (.Call (.Name y _) [.Constant (.str _) _ _] [] _)) none _ => (if y = cls ∧ glB sc cls = true ∧ dbg cls = false ∧ cls ∈ F.ex.mks then some none else none)
    | _ => none
  | .raiseW cls fld e, sc, _, Γ, x0 => match x0 with
    | .Raise (some (.Call (.Name y _) [x] [] _)) none _ => (match ckE F e sc Γ x with
    | some _ => if y = cls ∧ (cls, fld) ∈ F.ex.mkws ∧ glB sc cls = true ∧ dbg cls = false ∧ noStar x = true then some none else none
    | none => none)
    | _ => none
  | .try bb i yes no h cl, sc, Γb, Γ, x0 => match bb, x0 with
    | .cons s .nil, .Try [st] [.ExceptHandler (some (.Name m _)) (some y) (h0 :: hs) _] [] [] _ => (if isAt s = true ∧ F.N[i]? = some y ∧ sc.names.lookup y = some .local ∧ Γ[i]? = some none ∧ glB sc m = true ∧ dbg m = false ∧ exmOk F.ex.exm m yes no F.ex.cls = true ∧ yes.isEmpty = false then
      match ckS F τr s sc Γb Γ st, ckXB F sc i .I h Γ (h0 :: hs) with
      | some (some Γ1), some (some Γh) => if Γh[i]? = some none then joinR cl (some Γ1) (some Γh) else none
      | _, _ => none
    else none)
    | _, _ => none
def ckB (F : FI) (τr : Ty) : B → Scope → TyEnv → TyEnv → List Stmt → Option (Option TyEnv)
  | .nil, _, _, Γ, [] => some (some Γ)
  | .cons .unr .nil, _, _, _, _ :: _ => some none
  | .cons (.co i t) b, sc, Γb, Γ, ss => match Γ[i]? with
    | some (some τ) => if sub τ t = true ∧ leS (Γ.set i (some t)) Γ = true then ckB F τr b sc Γb (Γ.set i (some t)) ss else none
    | _ => none
  | .cons s b, sc, Γb, Γ, st :: ss => match ckS F τr s sc Γb Γ st with
    | some (some Γ1) => ckB F τr b sc Γb Γ1 ss
    | some none => if b.isNil && ss.isEmpty then some none else none
    | none => none
  | _, _, _, _, _ => none
end
/-! ### the statements' rules -/
theorem sw_other {x : Expr} {line : Nat} {env : PySem.Env} {es : List Expr} {k : Nat} {p : Pos} (h : noComp x = true) : swapsWith x (some (.Tuple es k p)) line env = pure false := by
  cases x <;> first | rfl | cases h
theorem sw_sub {x : Expr} {line : Nat} {env : PySem.Env} {a b : Expr} {p : Pos} (h : noComp x = true) : swapsWith x (some (.Subscript a b p)) line env = pure false := by
  cases x <;> first | rfl | cases h
theorem sw_lc {elt : Expr} {gs : List Comprehension} {scope : Scope} {p py : Pos} {y : Str} {line : Nat} {env : PySem.Env} : ∃ b, swapsWith (.ListComp elt gs scope p) (some (.Name y py)) line env = pure b ∧ (b = true → env.scope.names.lookup y = some .local) := by
  refine ⟨_, rfl, fun h => ?_⟩
  simp only [Bool.and_eq_true] at h
  exact eq_of_beq h.1.1.2
theorem locBs_inv {N : List Str} : ∀ {is : List Nat} {es : List Expr}, locBs N sc is es = true → is.length = es.length ∧ ∀ (k : Nat) (e : Expr), es[k]? = some e → ∃ x p i, e = .Name x p ∧ is[k]? = some i ∧ locB N sc i x = true
  | [], [], _ => ⟨rfl, fun k e h => by simp at h⟩
  | [], _ :: _, h => by cases h
  | _ :: _, [], h => by cases h
  | i :: is, e :: es, h => by
    cases e <;> simp only [locBs, Bool.and_eq_true, Bool.false_eq_true] at h
    obtain ⟨h1, h2⟩ := h
    obtain ⟨l, k2⟩ := locBs_inv h2
    refine ⟨by simp [l], fun k e' he => ?_⟩
    cases k with
    | zero => cases he; exact ⟨_, _, _, rfl, rfl, h1⟩
    | succ k => exact k2 k e' he
theorem pg_fn {tg : Tg} {tgx x : Expr} (g : GoodS G lv W sc X) (hN : F.N = G.N) (h : setB F.N sc tg tgx x = true) : PG X tgx (gOf G.K tg) := by
  have hs : X.env.scope = sc := g.sc
  cases tg with
  | s i =>
    cases tgx <;> simp only [setB, Bool.false_eq_true] at h
    simp only [Bool.and_eq_true] at h
    obtain ⟨h1, h2⟩ := locB_inv h.1
    exact pg_name g.nd (by rw [g.N, ← hN]; exact h1) (by rw [hs]; exact h2) (.inl (g.fn _))
  | t is =>
    cases tgx <;> simp only [setB, Bool.false_eq_true] at h
    simp only [Bool.and_eq_true] at h
    rename_i es kk pos
    obtain ⟨hl, hk⟩ := locBs_inv h.1.1
    have ge := g.gx
    subst ge
    have nm : ∀ e ∈ es, ∃ x p, e = .Name x p := fun e he => by
      obtain ⟨k, hk'⟩ := List.getElem?_of_mem he
      obtain ⟨x, p, _, q, _⟩ := hk k e hk'
      exact ⟨x, p, q⟩
    have an := assignEach_names es X.env nm
    refine pg_tup (n := is.length) g.calm (pgs_names (X := X) (own := fun x => Loc X.env.scope x) g.nd (fun x hx => ⟨hx, .inl (g.fn x)⟩) is es (fun k e he => ?_) hl) (by rw [hl]; exact an.1) an.2.1
    obtain ⟨x, p, i, q1, q2, q3⟩ := hk k e he
    obtain ⟨q4, q5⟩ := locB_inv q3
    exact ⟨x, p, i, q1, q2, (hN ▸ q4 : (gx X).N[i]? = some x), by rw [hs]; exact q5⟩
theorem set_ps {tg : Tg} {tgx x : Expr} {te : TE} {pos : Pos} (g : GoodS G lv W sc X) (hN : F.N = G.N) (h : setB F.N sc tg tgx x = true) (hx : PEx X x te) : PS X (.Assign [tgx] x pos) (tAsg te (gOf G.K tg)) := by
  have hs : X.env.scope = sc := g.sc
  have hg := pg_fn g hN h
  cases tg with
  | s i =>
    cases tgx <;> simp only [setB, Bool.false_eq_true] at h
    rename_i y py
    simp only [Bool.and_eq_true] at h
    obtain ⟨h1, h2⟩ := locB_inv h.1
    have hN1 : X.N[i]? = some y := by rw [g.N, ← hN]; exact h1
    by_cases hl : noLC x = true
    · exact ps_set g.nd hN1 (by rw [hs]; exact h2) hx.1 (sw_none h.2 hl) (.inl (g.fn _))
    · cases x with
      | ListComp elt gs scope p =>
        obtain ⟨b, hb, hk⟩ := sw_lc (elt := elt) (gs := gs) (scope := scope) (p := p) (y := y) (py := py) (line := pos.line) (env := X.env)
        cases b with
        | false => exact ps_set g.nd hN1 (by rw [hs]; exact h2) hx.1 hb (.inl (g.fn _))
        | true => exact hx.2 elt gs scope p rfl i y py pos hN1 (hk rfl) hb
      | _ => exact absurd rfl hl
  | t is =>
    cases tgx <;> simp only [setB, Bool.false_eq_true] at h
    rename_i es kk tp
    simp only [Bool.and_eq_true, Bool.not_eq_true'] at h
    refine ps_asg hx.1 hg ?_ ?_ rfl
    · show swapsWith x (some (.Tuple es kk tp)) pos.line X.env = pure false
      exact sw_other h.2
    · have h3 := h.1.2
      cases x <;> first | rfl | (cases h3; done)
end En

set_option Elab.async false
set_option linter.all false
set_option autoImplicit false
set_option maxRecDepth 100000
set_option maxHeartbeats 1000000
namespace En
open PySem PySem.Spec PyProof.Rows L2 RZ
variable {G : Gx} {lv : Nat} {F : FI} {c : Cg} {sc : Scope} {Γ Γ' Γ1 Γ2 Γb : TyEnv} {x : Expr} {τ τ' τr t : Ty} {W : WX} {X : Cx} {i n : Nat}
/-- what a statement's check says -/
def RdS (G : Gx) (lv : Nat) (sc : Scope) (W : WX) (c : Cg) (st : Stmt) (s : S) (Γ Γb : TyEnv) (τr : Ty) (r : Option TyEnv) : Prop :=
  ∃ ts, (∀ X, GoodS G lv W sc X → PS X st ts) ∧ ∀ Γ', (∀ Γ1, r = some Γ1 → Γ' = Γ1) → EvS G W false ts Γ Γ' Γb τr (exec c s)
def RdB (G : Gx) (lv : Nat) (sc : Scope) (W : WX) (c : Cg) (ss : List Stmt) (b : B) (Γ Γb : TyEnv) (τr : Ty) (r : Option TyEnv) : Prop :=
  ∃ ts, (∀ X, GoodS G lv W sc X → PSs X ss ts) ∧ ∀ Γ', (∀ Γ1, r = some Γ1 → Γ' = Γ1) → EvS G W false ts Γ Γ' Γb τr (execB c b)
theorem EvS.fn {a : Bool} {tt : TS} {f g : Env → Fl} (h : EvS G W a tt Γ Γ' Γb τr f) (e : ∀ ρ, g ρ = f ρ) : EvS G W a tt Γ Γ' Γb τr g := fun ρ σ H z m se ok Dn q => h ρ σ H z m se ok Dn (by rw [← e]; exact q)
theorem path_rd (C : CallsOk G lv F c) {o : Expr} {y : Str} {q : Pos} {l : List (Expr × Pos)} {p : Es} {τ0 : Ty} (h : pathOf o = some (y, q, l)) (hs : slotB F.N sc i y = true) (hi : Γ[i]? = some (some τ)) (hst : τ.st = true) (hk : ckKs F p sc Γ l = true) (ht : pthT p.sh τ = some τ0) :
    ∃ tp, (∀ X, Good G lv W sc X → PE X o tp) ∧ PthE G tp Γ i p.sh (evs c p) := by
  obtain ⟨e, hn⟩ := pathOf_inv o h
  obtain ⟨tp, h1, h2⟩ := path_ok (W := W) (n := []) C hi hst p l (.Name y q) (tVar i) (fun _ => .ok []) τ0 hk hn (var_pe C hs) (PthE.var hi) ht
  refine ⟨tp, by rw [e]; exact h1, ?_⟩
  refine h2.fn fun ρ => ?_
  show evs c p ρ = (evs c p ρ).bind fun b => Res.ok ([] ++ b)
  cases evs c p ρ <;> rfl
def muR : Mu → V → List V → Hp → VK → Prop
  | .app => rAppend
  | .ext => rExtend
  | .ins => En.rIns
  | .clr => rClear
theorem mt_ins {X : Cx} : MtR X "list.insert" En.rIns := fun pins s σ H x vs v us Q I rx rv h => mt_insert pins s σ H x vs v us Q I rx rv (by
  obtain ⟨l, xs, i, y, h1, h2, h3, h4, h5, h6, q⟩ := h
  refine ⟨l, xs, i, y, h1, h2, h3, h4, h5, h6, ?_⟩
  rw [List.append_assoc]
  exact q)
theorem muPE {X : Cx} {m : Mu} {o : Expr} {to : TE} {xs : List Expr} {ts : List TE} {apos cpos : Pos} (ho : PE X o to) (h : PEs X xs ts) (hb : ∀ nm, attributeBase o nm X.env (eval o X.env) = eval o X.env) (hl : (apos.endLine == cpos.line) = true) (hlen : xs.length ≤ 5) :
    PE X (.Call (.Attribute o (muNm m) apos) xs [] cpos) (tBM X.K "list" (gAgM X.K (muR m)) (tAg X.K to) (tL ts)) := by
  cases m with
  | app => exact meth_pe PySem.F.plainAttrs_list PySem.F.slot_list_append PySem.F.type_list_append (mt_ag mt_append) (pe_ag ho) h (hb _) hl hlen
  | ext => exact meth_pe PySem.F.plainAttrs_list PySem.F.slot_list_extend PySem.F.type_list_extend (mt_ag mt_extend) (pe_ag ho) h (hb _) hl hlen
  | ins => exact meth_pe PySem.F.plainAttrs_list PySem.F.slot_list_insert PySem.F.type_list_insert (mt_ag mt_ins) (pe_ag ho) h (hb _) hl hlen
  | clr => exact meth_pe PySem.F.plainAttrs_list PySem.F.slot_list_clear PySem.F.type_list_clear (mt_ag mt_clear) (pe_ag ho) h (hb _) hl hlen
theorem muS (m : Mu) : MuS G (muR m) (muTs m t) t (muv m) := by
  cases m with
  | app => exact mu_app
  | ext => exact mu_ext
  | ins => exact mu_ins
  | clr => exact mu_clr
theorem ckMu_ok (C : CallsOk G lv F c) {m : Mu} {p es : Es} {st : Stmt} (h : ckMu F m i p es sc Γ st = some Γ1) : ∃ ts, (∀ X, GoodS G lv W sc X → PS X st ts) ∧ EvS G W true ts Γ Γ1 Γb τr (exec c (.mu m i p es)) ∧ ∀ q, Frm q ts := by
  unfold ckMu at h
  split at h
  · rename_i o nm apos xs cpos pos
    split at h
    · rename_i y q l e1
      split at h
      · rename_i τ e2
        split at h
        · rename_i t e3
          split at h
          · rename_i τs Γ1' e4
            split at h
            · rename_i k
              cases h
              obtain ⟨k1, rfl, k3, k4, k5, k6, k7, k8, k9, k10⟩ := k
              obtain ⟨tp, hp, ep⟩ := path_rd (W := W) C e1 k1 e2 k6 k3 e3
              obtain ⟨ts, ha, ea⟩ := ckEs_ok C es sc Γ _ xs τs W e4
              refine ⟨_, fun X g => ?_, (EvS.mu (r := muR m) (ts := muTs m t) ep ea e2 k6 k7 k8 e3 k9 k10 (muS m)).fn fun ρ => rfl, fun q => Frm.drop⟩
              have := muPE (m := m) (hp X g.toGood) (ha X g.toGood) (fun nm => pathBase e1 nm _ _) k4 k5
              rw [g.K] at this
              exact ps_expr this
            · cases h
          · cases h
        · cases h
      · cases h
    · cases h
  · cases h
theorem ckSub_ok (C : CallsOk G lv F c) {p : Es} {ix e : E} {st : Stmt} (h : ckSub F i p ix e sc Γ st = some Γ1) : ∃ ts, (∀ X, GoodS G lv W sc X → PS X st ts) ∧ EvS G W true ts Γ Γ1 Γb τr (exec c (.sub i p ix e)) := by
  unfold ckSub at h
  split at h
  · rename_i o k kp x pos
    split at h
    · rename_i τe Γ1' e1
      split at h
      · rename_i y q l e2
        split at h
        · rename_i τ e3
          split at h
          · rename_i t e4
            split at h
            · rename_i τk Γ2 e5
              split at h
              · rename_i kk
                cases h
                obtain ⟨rfl, k1, k2, k3, k4, k5, k6, k7⟩ := kk
                obtain ⟨⟨te, p1, ee⟩, _⟩ := ckE_ok C e sc Γ _ x τe W e1
                obtain ⟨tp, hp, ep⟩ := path_rd (W := W) C e2 k1 e3 k4 k2 e4
                obtain ⟨⟨tk, p3, ek⟩, _⟩ := ckE_ok C ix sc _ _ k τk W e5
                refine ⟨_, fun X g => ?_, (EvS.sub ee ep ek e3 k5 e4 k6).fn fun ρ => rfl⟩
                have pk : PE X k (tAg G.K tk) := by
                  have := pe_ag (p3 X g.toGood).1
                  rw [g.K] at this
                  exact this
                refine ps_asg (p1 X g.toGood).1 (pg_sub (hp X g.toGood) pk set_list fun v => ?_) ?_ ?_ rfl
                · cases k <;> first | rfl | (cases k3; done)
                · show swapsWith x (some (.Subscript o k kp)) pos.line X.env = pure false
                  exact sw_sub k7
                · rfl
              · cases h
            · cases h
          · cases h
        · cases h
      · cases h
    · cases h
  · cases h
theorem ix_sl {k : Expr} (h : noSlice k = true) : NoSl k := by
  intro ov iv
  cases k <;> first | rfl | (cases h; done)
theorem ckDSub_ok (C : CallsOk G lv F c) {p : Es} {ix e : E} {st : Stmt} (h : ckDSub F i p ix e sc Γ st = some Γ1) : ∃ ts, (∀ X, GoodS G lv W sc X → PS X st ts) ∧ EvS G W true ts Γ Γ1 Γb τr (exec c (.dsub i p ix e)) := by
  unfold ckDSub at h
  split at h
  · rename_i o k kp x pos
    split at h
    · rename_i τe Γ1' e1
      split at h
      · rename_i y q l e2
        split at h
        · rename_i τ e3
          split at h
          · rename_i t e4
            split at h
            · rename_i τk Γ2 e5
              split at h
              · rename_i kk
                cases h
                obtain ⟨rfl, k1, k2, k3, k4, k5, k6, k7⟩ := kk
                obtain ⟨⟨te, p1, ee⟩, _⟩ := ckE_ok C e sc Γ _ x τe W e1
                obtain ⟨tp, hp, ep⟩ := path_rd (W := W) C e2 k1 e3 k4 k2 e4
                obtain ⟨⟨tk, p3, ek⟩, _⟩ := ckE_ok C ix sc _ _ k τk W e5
                refine ⟨_, fun X g => ?_, (EvS.dsub ee ep ek e3 k5 e4 k6).fn fun ρ => rfl⟩
                have ps := ps_dputN (pos := pos) (pos' := kp) (X := X) g.hu (hp X g.toGood) (pe_ag (p3 X g.toGood).1) (p1 X g.toGood).1 (sw_sub k7)
                rw [g.K, g.w] at ps
                exact ps
              · cases h
            · cases h
          · cases h
        · cases h
      · cases h
    · cases h
  · cases h
theorem sd_pe {nw : Bool} {o kx : Expr} {y : Str} {tk : TE} (g : Good G lv W sc X) (h : sdHead nw o = some (y, kx)) (hv : ∀ p, PE X (.Name y p) (tVar i)) (hk : PE X kx tk) : PE X o (sdT X.K X.w i tk nw) ∧ ∀ nm, attributeBase o nm X.env (eval o X.env) = eval o X.env := by
  cases nw with
  | true =>
    unfold sdHead at h
    split at h
    · split at h
      · rename_i q
        cases h
        obtain ⟨rfl, hl, ns⟩ := q
        exact ⟨bmW PySem.F.plainAttrs_dict PySem.F.slot_dict_setdefault PySem.F.type_dict_setdefault (mt_setd g.hu) (hv _) (PEs.cons ns hk (PEs.cons rfl (pe_lst pa_nil) .nil)) rfl hl (by simp), fun _ => rfl⟩
      · cases h
    · cases ‹true = false›
    · cases h
  | false =>
    unfold sdHead at h
    split at h
    · cases ‹false = true›
    · split at h
      · rename_i q
        cases h
        exact ⟨pe_dgetN g.hu (hv _) hk (ix_sl q), fun _ => rfl⟩
      · cases h
    · cases h
theorem ckSd_ok (C : CallsOk G lv F c) {nw : Bool} {k e : E} {st : Stmt} (h : ckSd F nw i k e sc Γ st = some Γ1) : ∃ ts, (∀ X, GoodS G lv W sc X → PS X st ts) ∧ EvS G W true ts Γ Γ1 Γb τr (exec c (.sdapp nw i k e)) := by
  unfold ckSd at h
  split at h
  · rename_i o nm apos xs cpos pos
    split at h
    · rename_i t e1
      split at h
      · rename_i y kx e2
        split at h
        · rename_i τk Γ0 e3
          split at h
          · rename_i τe Γ1' e4
            split at h
            · rename_i q
              cases h
              obtain ⟨rfl, rfl, k1, rfl, k3, k4, k5, k6⟩ := q
              obtain ⟨⟨tk, p1, ek⟩, _⟩ := ckE_ok C k sc _ _ kx τk W e3
              obtain ⟨x, xs', t', ts', Γm, rfl, ns, e5, e6, e7⟩ := ckEs_cons e4
              obtain ⟨rfl, rfl, rfl⟩ := ckEs_nil e6
              cases e7
              obtain ⟨⟨te, p2, ee⟩, _⟩ := ckE_ok C e sc _ _ x τe W e5
              refine ⟨_, fun X g => ?_, (EvS.sdapp (nw := nw) ek ee e1 k5 k6).fn fun ρ => rfl⟩
              obtain ⟨h1, h2⟩ := sd_pe (X := X) g.toGood e2 (fun p => var_pe C k1 X g.toGood) (p1 X g.toGood).1
              have := meth_pe PySem.F.plainAttrs_list PySem.F.slot_list_append PySem.F.type_list_append mt_append h1 (PEs.cons ns (p2 X g.toGood).1 .nil) (h2 "append") k3 k4
              rw [g.K, g.w] at this
              exact ps_expr this
            · cases h
          · cases h
        · cases h
      · cases h
    · cases h
  · cases h
theorem ckPop_inv {F : FI} {es : Es} {x : Expr} (h : ckPop F i es sc Γ x = some (t, Γ1)) : ∃ y p apos xs cpos τs, x = .Call (.Attribute (.Name y p) "pop" apos) xs [] cpos ∧ slotB F.N sc i y = true ∧ Γ[i]? = some (some (.N .o t)) ∧ ckEs F es sc Γ xs = some (τs, Γ1) ∧ (apos.endLine == cpos.line) = true ∧ xs.length ≤ 5 ∧ Γ1[i]? = some (some (.N .o t)) ∧ TyEnv.st Γ1 = true := by
  unfold ckPop at h
  split at h
  · split at h
    · split at h
      · split at h
        · rename_i q
          cases h
          obtain ⟨q1, rfl, q2, q3, q4, q5⟩ := q
          exact ⟨_, _, _, _, _, _, rfl, q1, by assumption, by assumption, q2, q3, q4, q5⟩
        · cases h
      · cases h
    · cases h
  · cases h
theorem popPE {X : Cx} {y : Str} {p : Pos} {xs : List Expr} {ts : List TE} {apos cpos : Pos} (ho : PE X (.Name y p) (tVar i)) (h : PEs X xs ts) (hl : (apos.endLine == cpos.line) = true) (hlen : xs.length ≤ 5) :
    PE X (.Call (.Attribute (.Name y p) "pop" apos) xs [] cpos) (tBM X.K "list" rPopI (tVar i) (tL ts)) :=
  meth_pe PySem.F.plainAttrs_list PySem.F.slot_list_pop PySem.F.type_list_pop mt_popI ho h rfl hl hlen
end En

set_option Elab.async false
set_option linter.all false
set_option autoImplicit false
set_option maxRecDepth 100000
set_option maxHeartbeats 4000000
namespace En
open PySem PySem.Spec PyProof.Rows L2 RZ
variable {G : Gx} {lv : Nat} {F : FI} {c : Cg} {sc : Scope} {Γ Γ' Γ1 Γ2 Γb : TyEnv} {x : Expr} {τ τ' τr t : Ty} {W : WX} {X : Cx} {i n : Nat} {cl : List Nat}
/-- what a check says of a way: its ends, whether it is gone through -/
def Way (G : Gx) (W : WX) (ts : TS) (Γ Γb : TyEnv) (τr : Ty) (r : Option TyEnv) (f : Env → Fl) : Prop :=
  (∀ Γ', (∀ Γ1, r = some Γ1 → Γ' = Γ1) → EvS G W false ts Γ Γ' Γb τr f) ∧ (r = none → ∀ ρ ρ', f ρ ≠ .nx ρ')
theorem Way.go {ts : TS} {f : Env → Fl} (h : EvS G W false ts Γ Γ1 Γb τr f) : Way G W ts Γ Γb τr (some Γ1) f := ⟨fun Γ' e => by rw [e Γ1 rfl]; exact h, fun e => by cases e⟩
theorem Way.no {ts : TS} {f : Env → Fl} (h : ∀ Γ', EvS G W false ts Γ Γ' Γb τr f) (hn : ∀ ρ ρ', f ρ ≠ .nx ρ') : Way G W ts Γ Γb τr none f := ⟨fun Γ' _ => h Γ', fun _ => hn⟩
theorem EvS.never {a : Bool} {ts : TS} {f : Env → Fl} {k : Env → Fl} (h : EvS G W a ts Γ Γ' Γb τr f) (hn : ∀ ρ ρ', f ρ ≠ .nx ρ') : EvS G W a ts Γ Γ2 Γb τr fun ρ => (f ρ).then k := by
  intro ρ σ H z m se ok Dn q
  dsimp only at q
  refine h ρ σ H z m se ok Dn ?_
  cases e : f ρ with
  | nx ρ' => exact absurd e (hn ρ ρ')
  | rt d => rw [e] at q; exact q
  | bk ρ' => rw [e] at q; exact q
  | ex x => rw [e] at q; exact q
  | bad => rw [e] at q; exact q
theorem sub_refl : ∀ τ : Ty, sub τ τ = true
  | .I => rfl
  | .N q t => by
    show (mle q q && sub t t) = true
    rw [sub_refl t]
    cases q <;> rfl
theorem leS_refl : ∀ Γ : TyEnv, leS Γ Γ = true
  | [] => rfl
  | none :: Γ => by
    show (leS1 none none && leS Γ Γ) = true
    rw [leS_refl Γ]
    rfl
  | some τ :: Γ => by
    show (leS1 (some τ) (some τ) && leS Γ Γ) = true
    rw [leS_refl Γ]
    show (sub τ τ && true) = true
    rw [sub_refl]
    rfl
theorem Way.br {ts : TS} {f : Env → Fl} {r : Option TyEnv} (h : Way G W ts Γ Γb τr r f) (e : ∀ Γa, r = some Γa → leS Γ' (clearT cl Γa) = true) : EvS G W false ts Γ Γ' Γb τr fun ρ => (f ρ).then fun ρ => .nx (clear cl ρ) := by
  cases r with
  | none => exact (h.1 Γ fun _ e => by cases e).never (h.2 rfl)
  | some Γa => exact EvS.after cl (h.1 Γa fun _ e => by cases e; rfl) (e Γa rfl)
theorem Way.loop {tb : TS} {f : Env → Fl} {re : Option TyEnv} {Γl : TyEnv} (wb : Way G W tb Γ Γl τr re f) (e3 : ∀ Γe, re = some Γe → leS Γl (clearT cl Γe) = true) (q2 : leS Γl (clearT cl Γl) = true) : ∃ Γe, EvS G W false tb Γ Γe Γl τr f ∧ leS Γl (clearT cl Γe) = true := by
  cases re with
  | none => exact ⟨Γl, wb.1 Γl fun _ e => (by cases e), q2⟩
  | some Γe => exact ⟨Γe, wb.1 Γe fun _ e => (by cases e; rfl), e3 Γe rfl⟩
theorem joinR_inv {ra rb r : Option TyEnv} (h : joinR cl ra rb = some r) : (∀ Γ', (∀ Γ1, r = some Γ1 → Γ' = Γ1) → (∀ Γa, ra = some Γa → leS Γ' (clearT cl Γa) = true) ∧ ∀ Γa, rb = some Γa → leS Γ' (clearT cl Γa) = true) ∧ (r = none → ra = none ∧ rb = none) := by
  cases ra with
  | none =>
    cases rb with
    | none => cases h; exact ⟨fun Γ' _ => ⟨fun _ e => (by cases e), fun _ e => (by cases e)⟩, fun _ => ⟨rfl, rfl⟩⟩
    | some b => cases h; exact ⟨fun Γ' e => ⟨fun _ e => (by cases e), fun _ e' => by cases e'; rw [e _ rfl]; exact leS_refl _⟩, fun e => by cases e⟩
  | some a =>
    cases rb with
    | none => cases h; exact ⟨fun Γ' e => ⟨fun _ e' => by cases e'; rw [e _ rfl]; exact leS_refl _, fun _ e => (by cases e)⟩, fun e => by cases e⟩
    | some b =>
      simp only [joinR] at h
      split at h
      · rename_i q
        rw [Bool.and_eq_true] at q
        cases h
        exact ⟨fun Γ' e => ⟨fun _ e' => by cases e'; rw [e _ rfl]; exact q.1, fun _ e' => by cases e'; rw [e _ rfl]; exact q.2⟩, fun e => by cases e⟩
      · cases h
theorem then_ne {f : Fl} {k : Env → Fl} (h : ∀ ρ', f ≠ .nx ρ') (ρ' : Env) : f.then k ≠ .nx ρ' := by
  cases f with
  | nx ρ => exact absurd rfl (h ρ)
  | _ => exact fun e => nomatch e
theorem at0_ok (C : CallsOk G lv F c) {s : S} {st : Stmt} {Γ Γ1 Γb : TyEnv} (ha : isAt0 s = true) (h : ckS F τr s sc Γb Γ st = some (some Γ1)) (W : WX) : ∃ ts, (∀ X, GoodS G lv W sc X → PS X st ts) ∧ EvS G W true ts Γ Γ1 Γb τr (exec c s) := by
  cases s with
  | set tg e =>
    unfold ckS at h
    split at h <;> first | (cases h; done) | skip
    rename_i tgx x pos
    split at h
    · rename_i τ Γ1 e1
      split at h
      · rename_i q
        cases h
        obtain ⟨⟨te, p1, ee⟩, _⟩ := ckE_ok C e _ _ _ x τ W e1
        exact ⟨_, fun X g => set_ps g C.N q.1 (p1 X g.toGood), (EvS.set ee (EvG.of q.2)).fn fun ρ => rfl⟩
      · cases h
    · cases h
  | expr e =>
    unfold ckS at h
    split at h <;> first | (cases h; done) | skip
    rename_i x pos
    split at h
    · rename_i τ Γ1 e1
      split at h
      · rename_i q
        cases h
        obtain ⟨⟨te, p1, ee⟩, _⟩ := ckE_ok C e _ _ _ x τ W e1
        exact ⟨_, fun X g => ps_expr (p1 X g.toGood).1 (sw_none0 q.1 q.2), (EvS.expr ee).fn fun ρ => rfl⟩
      · cases h
    · cases h
  | _ => cases ha
theorem EvS.iteT {tt : TT} {t u : TS} {b : Env → Res Bool} {f g : Env → Fl} (hb : EvT G W tt Γ b) (h1 : EvS G W true t Γ Γ1 Γb τr f) (h2 : EvS G W true u Γ Γ1 Γb τr g) : EvS G W true (tIfS tt t u) Γ Γ1 Γb τr fun ρ => (b ρ).fl fun x => if x then f ρ else g ρ := by
  intro ρ σ H z m se ok Dn h
  try dsimp only at h
  refine hb ρ σ H z m se ok _ (Res.post_mono (post_fl h) (fun x h H1 z1 m1 se1 st1 ex1 => ?_) fun _ h => h)
  have stp : ∀ r : Fl, FlP G W true Γ1 Γb τr Dn σ H z m r → FlP G W true Γ1 Γb τr Dn σ H1 z1 m1 r := fun r h => by
    cases r with
    | nx ρ' => exact fun σ2 H2 z2 m2 se st => h σ2 H2 z2 m2 se (st1.trans st)
    | rt d => exact fun v H2 z2 m2 rp st => h v H2 z2 m2 rp (st1.trans st)
    | bk ρ' => exact fun σ2 H2 z2 m2 se st => h σ2 H2 z2 m2 se (st1.trans st)
    | ex x => exact XOk.ext (show XOk G W σ H x from h) ex1
    | bad => exact h
  cases x with
  | true =>
    simp only [if_true] at h ⊢
    exact h1 ρ σ H1 z1 m1 se1 st1.ok Dn (stp _ h)
  | false =>
    simp only [Bool.false_eq_true, if_false] at h ⊢
    exact h2 ρ σ H1 z1 m1 se1 st1.ok Dn (stp _ h)
theorem ckB_one {s : S} {sc : Scope} {Γb : TyEnv} {ss : List Stmt} {r : Option TyEnv} (ha : isAt0 s = true) (h : ckB F τr (.cons s .nil) sc Γb Γ ss = some r) : ∃ st Γa, ss = [st] ∧ r = some Γa ∧ ckS F τr s sc Γb Γ st = some (some Γa) := by
  unfold ckB at h
  split at h <;> first | (cases ‹B.cons _ _ = _›) | cases h
  · cases ha
  · cases ha
  · rename_i st ss hn1 hn2
    split at h
    · rename_i Γ1 e1
      unfold ckB at h
      split at h <;> first | (cases ‹B.nil = _›) | cases h
      first
        | exact ⟨st, _, rfl, rfl, e1⟩
        | (cases h; exact ⟨st, _, rfl, rfl, e1⟩)
    · rename_i e1
      cases s with
      | set tg e =>
        unfold ckS at e1
        split at e1 <;> first | (cases e1; done) | skip
        split at e1
        · split at e1 <;> cases e1
        · cases e1
      | expr e =>
        unfold ckS at e1
        split at e1 <;> first | (cases e1; done) | skip
        split at e1
        · split at e1 <;> cases e1
        · cases e1
      | _ => cases ha
    · cases h
theorem at_ok (C : CallsOk G lv F c) {s : S} {st : Stmt} {Γ Γ1 Γb : TyEnv} (ha : isAt s = true) (h : ckS F τr s sc Γb Γ st = some (some Γ1)) (W : WX) : ∃ ts, (∀ X, GoodS G lv W sc X → PS X st ts) ∧ EvS G W true ts Γ Γ1 Γb τr (exec c s) := by
  unfold isAt at ha
  split at ha
  · rename_i t a b
    rw [Bool.and_eq_true] at ha
    obtain ⟨ha1, ha2⟩ := ha
    unfold ckS at h
    split at h <;> first | (cases h; done) | skip
    rename_i u v w pos
    split at h
    · rename_i e0
      split at h
      · rename_i q
        obtain ⟨rfl, q⟩ := q
        split at h
        · rename_i ra rb e1 e2
          obtain ⟨_, k0⟩ := ckE_ok C t _ _ _ u _ W e0
          obtain ⟨tt, pt, et⟩ := k0 q rfl
          obtain ⟨s1, Γa, rfl, rfl, g1⟩ := ckB_one ha1 e1
          obtain ⟨s2, Γc, rfl, rfl, g2⟩ := ckB_one ha2 e2
          obtain ⟨ta, pa, wa⟩ := at0_ok C ha1 g1 W
          obtain ⟨tb, pb, wb⟩ := at0_ok C ha2 g2 W
          obtain ⟨j1, _⟩ := joinR_inv h
          obtain ⟨ja, jb⟩ := j1 Γ1 fun _ e => by cases e; rfl
          refine ⟨tIfS tt ta tb, fun X g => ps_if (pt X g.toGood).1 (pss_one (pa X g)) (pss_one (pb X g)), (EvS.iteT et (EvS.after [] wa (ja _ rfl)) (EvS.after [] wb (jb _ rfl))).fn fun ρ => ?_⟩
          show ((ev c t ρ).bind toB).fl (fun x => (if x then execB c (.cons a .nil) ρ else execB c (.cons b .nil) ρ).then fun ρ => .nx (clear [] ρ)) = _
          have o : ∀ s : S, execB c (.cons s .nil) ρ = exec c s ρ := fun s => by
            show (exec c s ρ).then (execB c .nil) = _
            cases exec c s ρ <;> rfl
          rw [o, o]
          cases (ev c t ρ).bind toB with
          | ok x => cases x <;> rfl
          | ex _ => rfl
          | bad => rfl
        · cases h
      · cases h
    · cases h
  · exact at0_ok C ha h W
theorem exec_one {s : S} {ρ : Env} : execB c (.cons s .nil) ρ = exec c s ρ := by
  show (exec c s ρ).then (execB c .nil) = _
  cases exec c s ρ <;> rfl
theorem SE.junk {F : Fx} {H : Hp} {z : Addr → Prop} : ∀ {Γ : TyEnv} {ρ : List D} {σ : L2.St} {m : Ow} (i : Nat) (y : Option V), SE F H z Γ ρ σ m → Γ[i]? = some none → SE F H z Γ ρ (σ.set i y) m
  | _, _, _, _, i, y, .nil q, e => by simp at e
  | _, _, _, _, 0, y, .no a, _ => .no a
  | _, _, _, _, 0, y, .yes a b q, e => by simp at e
  | _, _, _, _, i + 1, y, .no a, e => .no (SE.junk i y a (by simpa using e))
  | _, _, _, _, i + 1, y, .yes a b q, e => .yes a (SE.junk i y b (by simpa using e)) q
theorem flp_after {a : Bool} {Dn : Ends} {ρ1 : Env} {H : Hp} {z : Addr → Prop} {m : Ow} {σ : L2.St} (q : FlP G W a Γ2 Γb τr Dn σ H z m (.nx (clear cl ρ1))) (e : leS Γ2 (clearT cl Γ1) = true) {σ1 : L2.St} {H1 : Hp} {z1 : Addr → Prop} {m1 : Ow} (se1 : SE G.F H1 z1 Γ1 ρ1 σ1 m1) (st1 : Stp H z m H1 z1 m1) : Dn.nx σ1 H1 := by
  obtain ⟨m2, se2, l⟩ := se1.clear cl
  obtain ⟨z3, m3, se3, st3⟩ := se2.sub e (st1.ok.drop l)
  exact q σ1 H1 z3 m3 se3 ((st1.drop l).trans st3)
/-- try .. except X as e -/
theorem try_ok (C : CallsOk G lv F c) {s : S} {st h0 : Stmt} {hs : List Stmt} {m y : Str} {np p2 p3 : Pos} {i : Nat} {yes no : List Str} {hb : XB} {Γh : TyEnv} (a1 : isAt s = true) (a2 : F.N[i]? = some y) (a3 : sc.names.lookup y = some .local) (a4 : Γ[i]? = some none) (a5 : glB sc m = true) (a6 : dbg m = false) (a7 : exmOk F.ex.exm m yes no F.ex.cls = true)
    (e1 : ckS F τr s sc Γb Γ st = some (some Γ1)) (e2 : ckXB F sc i .I hb Γ (h0 :: hs) = some (some Γh)) (a8 : Γh[i]? = some none) (a9 : yes.isEmpty = false) (l1 : leS Γ2 (clearT cl Γ1) = true) (l2 : leS Γ2 (clearT cl Γh) = true) (W : WX) (hv : G.mg "ValueError" = none) :
    ∃ ts, (∀ X, GoodS G lv W sc X → PS X (.Try [st] [.ExceptHandler (some (.Name m np)) (some y) (h0 :: hs) p2] [] [] p3) ts) ∧ EvS G W false ts Γ Γ2 Γb τr fun ρ => (catchX yes no (fun x => (xrun x hb ρ).fl) (exec c s ρ)).then fun ρ => .nx (clear cl ρ) := by
  have hT := C.ex
  have hN := C.N
  unfold exmOk at a7
  simp only [Bool.and_eq_true, List.all_eq_true, decide_eq_true_eq] at a7
  obtain ⟨ty, tn⟩ := a7
  -- the body, for each W
  have body : ∃ tb : WX → TS, ∀ W, (∀ X, GoodS G lv W sc X → PS X st (tb W)) ∧ EvS G W true (tb W) Γ Γ1 Γb τr (exec c s) := ⟨fun W => Classical.choose (at_ok C a1 e1 W), fun W => Classical.choose_spec (at_ok C a1 e1 W)⟩
  obtain ⟨tb, htb⟩ := body
  -- the class that the clause names
  obtain ⟨n0, h00⟩ : ∃ n, n ∈ yes := by
    cases yes with
    | nil => cases a9
    | cons n _ => exact ⟨n, List.mem_cons_self⟩
  obtain ⟨_, D, _, hD, _⟩ := hT.exm _ _ _ (ty n0 h00).1
  -- the suite, for each exception
  have suite : ∃ th : XI → TS, ∀ I : XI, I.ix = i → ExcK G.K I.C → G.mg I.x.cls = some (.ref I.C) → I.x.cls ∈ F.ex.cls → Zc (.ref I.C) I.d I.p.2 → (∃ vs, I.p.2.data = .fields vs) → (∀ X, GoodP G lv sc X I.p I.C I.d → PSs X (h0 :: hs) (th I)) ∧ WayX G I .I (th I) Γ (some Γh) (xrun I.x hb) := by
    refine ⟨fun I => Classical.epsilon fun t => (∀ X, GoodP G lv sc X I.p I.C I.d → PSs X (h0 :: hs) t) ∧ WayX G I .I t Γ (some Γh) (xrun I.x hb), fun I hi T hC hI hZ hf => ?_⟩
    subst hi
    exact Classical.epsilon_spec (ckXB_ok hT hN hv T hC hI hZ hf hb Γ _ _ e2)
  obtain ⟨th, hth⟩ := suite
  -- what the suite wishes of the exception at a
  have key : ∃ ts : Addr → Value → Option Addr → TS, ts = fun a cls d Dn σ H => ∃ (x : Exc) (C : Addr), cls = .ref C ∧ ExcK G.K C ∧ G.mg x.cls = some (.ref C) ∧ x.cls ∈ F.ex.cls ∧ ∀ oe : Obj, Zc (.ref C) d oe → (∃ vs, oe.data = .fields vs) → th ⟨(a, oe), C, d, x, i⟩ Dn σ H := ⟨_, rfl⟩
  obtain ⟨ts, hts⟩ := key
  refine ⟨fun Dn σ H => tb (wAs G.K (.ref D) i ts W Dn) Dn σ H, fun X g => ?_, ?_⟩
  · have gx1 := g.gx
    subst gx1
    have gs := g.sc
    refine ps_try_as g.stk g.frm g.nd (by have := a2; rw [hN] at this; exact this) (by rw [← gs] at a3; exact a3) ⟨g.gl a5, a6, .inl hD⟩ g.tk (fun W' pn xe tk po => ?_) (fun a oe cls d pn hz hf => ?_)
    · exact pss_one ((htb W').1 _ ⟨⟨rfl, gs, g.calm, g.room, tk, g.blt, g.nd⟩, g.fn, po, g.stk, g.frm⟩)
    · refine ⟨fun pins s1 σ H Dn I h => ?_⟩
      rw [hts] at h
      obtain ⟨x, C1, rfl, T, hC, hI, h⟩ := h
      have gp : GoodP (gx X) lv sc (X.suite a ((a, oe) :: pn)) (a, oe) C1 d := ⟨rfl, gs, ⟨g.room.dp, g.room.un⟩, g.blt, g.nd, g.fn, ⟨List.mem_cons_self, hz, hf⟩⟩
      exact ((hth ⟨(a, oe), C1, d, x, i⟩ rfl T hC hI hz hf).1 _ gp).run pins s1 σ H Dn I (h oe hz hf)
  · intro ρ σ H z mm se ok Dn q
    try dsimp only at q
    refine (htb (wAs G.K (.ref D) i ts W Dn)).2 ρ σ H z mm se ok Dn ?_
    cases e : exec c s ρ with
    | nx ρ1 =>
      rw [e] at q
      exact fun σ1 H1 z1 m1 se1 st1 => flp_after (cl := cl) q l1 se1 st1
    | rt d => rw [e] at q; exact q
    | bk ρ1 => rw [e] at q; exact q
    | bad => rw [e] at q; exact q
    | ex x =>
      rw [e] at q
      intro cv dx H1 xr ex1
      have xm := xr.1
      have q1 : FlP G W false Γ2 Γb τr Dn σ H z mm ((if x.cls ∈ yes then (xrun x hb ρ).fl else if x.cls ∈ no then Fl.ex x else Fl.bad).then fun ρ => .nx (clear cl ρ)) := q
      by_cases cy : x.cls ∈ yes
      · rw [if_pos cy] at q1
        obtain ⟨k1, k2⟩ := ty _ cy
        obtain ⟨C1, eC, T⟩ := hT.own _ k2
        rw [xm] at eC
        cases eC
        obtain ⟨C2, D2, f1, f2, f3⟩ := hT.exm _ _ _ k1
        rw [xm] at f1
        cases f1
        rw [hD] at f2
        cases f2
        refine ⟨true, f3, fun _ a ha => ?_, (fun e => by cases e)⟩
        rw [hts]
        refine ⟨x, C1, rfl, T, xm, k2, fun oe hz hf => ?_⟩
        have st1 := stpExt ok ex1
        have se1 : SE G.F H1 z Γ ρ (σ.set i (some (.ref a))) mm := (se.ext ex1 fun _ q => q).junk i _ a4
        have il : i < σ.length := by
          have l := se.len.1
          have : i < Γ.length := (List.getElem?_eq_some_iff.1 a4).1
          omega
        have at1 : At G ⟨(a, oe), C1, dx, x, i⟩ (σ.set i (some (.ref a))) H1 := ⟨List.getElem?_set_self il, xr⟩
        refine (hth ⟨(a, oe), C1, dx, x, i⟩ rfl T xm k2 hz hf).2.1 Γh (fun Γ1 e => by cases e; rfl) ρ _ H1 z mm se1 st1.ok at1 _ ?_
        cases er : xrun x hb ρ with
        | nx ρ' =>
          rw [er] at q1
          exact fun σ2 H2 z2 m2 se2 st2 at2 => flp_after (cl := cl) (σ := σ) q1 l2 (se2.junk i none a8) (st1.trans st2)
        | rt d => rw [er] at q1; exact q1.elim
        | bad => rw [er] at q1; exact q1.elim
      · rw [if_neg cy] at q1
        by_cases cn : x.cls ∈ no
        · rw [if_pos cn] at q1
          obtain ⟨C2, D2, f1, f2, f3⟩ := hT.exm _ _ _ (tn _ cn)
          rw [xm] at f1
          cases f1
          rw [hD] at f2
          cases f2
          exact ⟨false, f3, (fun e => by cases e), fun _ => q1 _ dx σ H1 xr ex1.kp⟩
        · rw [if_neg cn] at q1
          exact q1.elim
theorem tryR_ok (C : CallsOk G lv F c) {s : S} {st : Stmt} {m : Str} {np p2 p3 qp rp : Pos} {n : Nat} {q : Const} {yes no : List Str} {k : Kt} (a1 : isAt s = true) (a5 : glB sc m = true) (a6 : dbg m = false) (a7 : exmOk F.ex.exm m yes no F.ex.cls = true) (a9 : yes.isEmpty = false) (a10 : cEq k q = true)
    (e1 : ckS F τr s sc Γb Γ st = some (some Γ1)) (W : WX) :
    ∃ ts, (∀ X, GoodS G lv W sc X → PS X (.Try [st] [.ExceptHandler (some (.Name m np)) none [.Return (some (.Constant q n qp)) rp] p2] [] [] p3) ts) ∧ EvS G W false ts Γ Γ1 Γb τr fun ρ => catchX yes no (fun _ => .rt k.d) (exec c s ρ) := by
  have hT := C.ex
  unfold exmOk at a7
  simp only [Bool.and_eq_true, List.all_eq_true, decide_eq_true_eq] at a7
  obtain ⟨ty, tn⟩ := a7
  have body : ∃ tb : WX → TS, ∀ W, (∀ X, GoodS G lv W sc X → PS X st (tb W)) ∧ EvS G W true (tb W) Γ Γ1 Γb τr (exec c s) := ⟨fun W => Classical.choose (at_ok C a1 e1 W), fun W => Classical.choose_spec (at_ok C a1 e1 W)⟩
  obtain ⟨tb, htb⟩ := body
  obtain ⟨n0, h00⟩ : ∃ n, n ∈ yes := by
    cases yes with
    | nil => cases a9
    | cons n _ => exact ⟨n, List.mem_cons_self⟩
  obtain ⟨_, D, _, hD, _⟩ := hT.exm _ _ _ (ty n0 h00).1
  obtain ⟨v, h1, h2⟩ := cEq_inv a10
  refine ⟨fun Dn σ H => tb (wOnly G.K (.ref D) (fun _ _ _ => tSeq (tRet (tC v)) tNext) W Dn) Dn σ H, fun X g => ?_, ?_⟩
  · have gx1 := g.gx
    subst gx1
    have gs := g.sc
    refine ps_try_only g.stk g.frm ⟨g.gl a5, a6, .inl hD⟩ g.tk (fun W' pn xe tk po => ?_) (fun a oe cls d pn hz hf => pss_cons (ps_ret (h2 _ _ _)) pss_nil)
    exact pss_one ((htb W').1 _ ⟨⟨rfl, gs, g.calm, g.room, tk, g.blt, g.nd⟩, g.fn, po, g.stk, g.frm⟩)
  · intro ρ σ H z mm se ok Dn q
    try dsimp only at q
    refine (htb (wOnly G.K (.ref D) (fun _ _ _ => tSeq (tRet (tC v)) tNext) W Dn)).2 ρ σ H z mm se ok Dn ?_
    cases e : exec c s ρ with
    | nx ρ1 =>
      rw [e] at q
      exact fun σ1 H1 z1 m1 se1 st1 => q σ1 H1 z1 m1 se1 st1
    | rt d => rw [e] at q; exact q
    | bk ρ1 => rw [e] at q; exact q
    | bad => rw [e] at q; exact q
    | ex x =>
      rw [e] at q
      intro cv dx H1 xr ex1
      have xm := xr.1
      have q1 : FlP G W false Γ1 Γb τr Dn σ H z mm (if x.cls ∈ yes then Fl.rt k.d else if x.cls ∈ no then Fl.ex x else Fl.bad) := q
      by_cases cy : x.cls ∈ yes
      · rw [if_pos cy] at q1
        obtain ⟨k1, k2⟩ := ty _ cy
        obtain ⟨C1, eC, T⟩ := hT.own _ k2
        rw [xm] at eC
        cases eC
        obtain ⟨C2, D2, f1, f2, f3⟩ := hT.exm _ _ _ k1
        rw [xm] at f1
        cases f1
        rw [hD] at f2
        cases f2
        refine ⟨true, f3, fun _ a ha => ?_, (fun e => by cases e)⟩
        exact q1 v H1 z (fun _ => 0) (Rp.atom h1) ((stpExt ok ex1).drop fun _ => Nat.zero_le _)
      · rw [if_neg cy] at q1
        by_cases cn : x.cls ∈ no
        · rw [if_pos cn] at q1
          obtain ⟨C2, D2, f1, f2, f3⟩ := hT.exm _ _ _ (tn _ cn)
          rw [xm] at f1
          cases f1
          rw [hD] at f2
          cases f2
          exact ⟨false, f3, (fun e => by cases e), fun _ => q1 _ dx σ H1 xr ex1.kp⟩
        · rw [if_neg cn] at q1
          exact q1.elim
theorem swap_pair' {x y : Str} {px py pt pt2 : Pos} {a b : Expr} {kt k2} {env : PySem.Env} (hb : env.blockKind = .function) (hx : env.kindOf x = some .local) (hy : env.kindOf y = some .local) (hl : (py.line == px.line) = true) (hn : ¬ x = y)
   (sa : noStar a = true) (sb : noStar b = true)
   (hf : (foldedForSure 8 a && foldedForSure 8 b) = false) (hc : (constantsAlone 8 a && constantsAlone 8 b) = false) : swappedStores [.Tuple [.Name x px, .Name y py] kt pt] (.Tuple [a, b] k2 pt2) env = pure (some [x, y]) := by
  have he : ([x, y] : List Str).eraseDups = [x, y] := by
    have : (y == x) = false := by simpa using fun e : y = x => hn e.symm
    simp [List.eraseDups, List.eraseDupsBy, List.eraseDupsBy.loop, this]
  have hb' : (env.blockKind != .function) = false := by rw [hb]; rfl
  have kx : (env.kindOf x == some .local) = true := by rw [hx]; rfl
  have ky : (env.kindOf y == some .local) = true := by rw [hy]; rfl
  have hp : (Expr.Name x px).pos = px := rfl
  unfold swappedStores
  simp only [List.length_cons, List.length_nil, hb', List.any_cons, List.any_nil, List.head?_cons, Option.map_some, Option.getD_some, hp, List.filterMap_cons, List.filterMap_nil, kx, ky, hl, he, List.all_cons, List.all_nil, hf, hc, Bool.and_true, Bool.or_false, beq_self_eq_true, if_true, Bool.false_eq_true, if_false]
  rw [if_neg (by decide), if_neg, if_neg (by decide)]
  intro h
  rw [Bool.or_eq_true] at h
  rcases h with h | h
  · clear hf hc sb
    cases a <;> first | (cases h; done) | (cases sa; done)
  · clear hf hc sa
    cases b <;> first | (cases h; done) | (cases sb; done)
theorem swap_pair {N : List Str} {sc : Scope} {i j : Nat} {x y : Str} {px py pt pt2 : Pos} {a b : Expr} {kt k2} {env : PySem.Env} (hs : env.scope = sc) (h : parB N sc i j x y px py a b = true) : swappedStores [.Tuple [.Name x px, .Name y py] kt pt] (.Tuple [a, b] k2 pt2) env = pure (some [x, y]) := by
  subst hs
  unfold parB at h
  simp only [Bool.and_eq_true, decide_eq_true_eq, Bool.not_eq_true', beq_eq_false_iff_ne, ne_eq] at h
  obtain ⟨⟨⟨⟨⟨⟨⟨⟨⟨⟨⟨h1, h2⟩, h3⟩, h4⟩, h5⟩, h6⟩, h7⟩, h8⟩, h9⟩, h10⟩, h11⟩, h12⟩ := h
  have hb : env.blockKind = .function := by
    have : env.blockKind = bkOf env.scope := rfl
    rw [this]
    exact eq_of_beq h11
  exact swap_pair' hb h3 h4 h6 h5 h7 h8 h9 h10
theorem EvS.par {ta : TA} {f : Env → Res (List D)} {τ1 τ2 : Ty} {i j : Nat} (ha : EvA G W ta Γ Γ1 [τ1, τ2] f) (hi : i < Γ1.length) (hj : j < Γ1.length) : EvS G W false (tPar i j ta) Γ ((Γ1.set i (some τ1)).set j (some τ2)) Γb τr fun ρ => (f ρ).fl fun ds => match ds with
    | [a, b] => .nx ((ρ.set i a).set j b)
    | _ => .bad := by
  intro ρ σ H z m se ok Dn h
  try dsimp only at h
  refine ha ρ σ H z m se ok _ (Res.post_mono (post_fl h) (fun ds h vs H1 z1 m1 mv se1 r1 st1 ex1 => ?_) fun _ h c dx H' xr ex => h c dx H' xr ex)
  cases r1 with
  | cons a b q =>
    cases b with
    | cons b c q2 =>
      cases c with
      | nil q3 =>
        obtain ⟨m2, se2, l2⟩ := se1.put i hi a
        obtain ⟨m3, se3, l3⟩ := se2.put j (by rw [List.length_set]; exact hj) b
        refine ⟨_, _, rfl, h _ H1 z1 _ se3 (st1.drop fun x => ?_)⟩
        have := q x
        have := q2 x
        have := q3 x
        have := l2 x
        have := l3 x
        omega
theorem abase_args {f y : Expr} {ys : List Expr} {ks : List Keyword} {p : Pos} {nm : Str} {env : PySem.Env} {w : Sem Value} : attributeBase (.Call f (y :: ys) ks p) nm env w = w := by cases f <;> rfl
theorem Frm.none {q : Nat} : Frm q fun _ _ _ => False := fun o D D2 e σ H h k => k
theorem frm_set {tg : Tg} {e : E} {q : Nat} {te : TE} {K : PySem.W.Frag} (h : frS q (.set tg e) = true) : Frm q (tAsg te (gOf K tg)) := by
  cases tg with
  | s i => exact Frm.asg (FrG.name (by simpa [frS] using h))
  | t is => simp [frS] at h
theorem frm_for {tg : Tg} {it : It} {b : B} {q : Nat} {wi : TI} {tb : TS} {K : PySem.W.Frag} (h : frS q (.for it tg b cl) = true) (fb : ∀ q, frB q b = true → Frm q tb) : Frm q (tFor wi (gOf K tg) tb) := by
  cases tg with
  | s i =>
    simp only [frS, Bool.and_eq_true, bne_iff_ne, ne_eq] at h
    exact Frm.forS (FrG.name h.1) (fb q h.2)
  | t is => simp [frS] at h
mutual
theorem ckS_ok (C : CallsOk G lv F c) : ∀ (s : S) (sc : Scope) (Γb Γ : TyEnv) (st : Stmt) (τr : Ty) (r : Option TyEnv) (W : WX), ckS F τr s sc Γb Γ st = some r → ∃ ts, (∀ X, GoodS G lv W sc X → PS X st ts) ∧ Way G W ts Γ Γb τr r (exec c s) ∧ ∀ q, frS q s = true → Frm q ts
  | .set tg e, sc, Γb, Γ, st, τr, r, W, h => by
    unfold ckS at h
    split at h <;> first | (cases h; done) | skip
    rename_i tgx x pos
    split at h
    · rename_i τ Γ1 e1
      split at h
      · rename_i q
        cases h
        obtain ⟨⟨te, p1, ee⟩, _⟩ := ckE_ok C e _ _ _ x τ W e1
        exact ⟨_, fun X g => set_ps g C.N q.1 (p1 X g.toGood), Way.go ((EvS.set ee (EvG.of q.2)).at_.fn fun ρ => rfl), fun q e => frm_set e⟩
      · cases h
    · cases h
  | .mu m i p es, sc, Γb, Γ, st, τr, r, W, h => by
    unfold ckS at h
    obtain ⟨Γ1, e, rfl⟩ := Option.map_eq_some_iff.mp h
    obtain ⟨ts, h1, h2, h3⟩ := ckMu_ok (W := W) (Γb := Γb) (τr := τr) C e
    exact ⟨ts, h1, Way.go h2.at_, fun q _ => h3 q⟩
  | .sub i p ix e, sc, Γb, Γ, st, τr, r, W, h => by
    unfold ckS at h
    obtain ⟨Γ1, e, rfl⟩ := Option.map_eq_some_iff.mp h
    obtain ⟨ts, h1, h2⟩ := ckSub_ok (W := W) (Γb := Γb) (τr := τr) C e
    exact ⟨ts, h1, Way.go h2.at_, fun _ e => by simp [frS] at e⟩
  | .dsub i p ix e, sc, Γb, Γ, st, τr, r, W, h => by
    unfold ckS at h
    obtain ⟨Γ1, e, rfl⟩ := Option.map_eq_some_iff.mp h
    obtain ⟨ts, h1, h2⟩ := ckDSub_ok (W := W) (Γb := Γb) (τr := τr) C e
    exact ⟨ts, h1, Way.go h2.at_, fun _ e => by simp [frS] at e⟩
  | .popAt j i es, sc, Γb, Γ, st, τr, r, W, h => by
    unfold ckS at h
    split at h <;> first | (cases h; done) | skip
    rename_i y py x pos
    split at h
    · rename_i t Γ1 e1
      split at h
      · rename_i q
        cases h
        obtain ⟨y', p, apos, xs, cpos, τs, rfl, k1, k2, k3, k4, k5, k6, k7⟩ := ckPop_inv e1
        obtain ⟨ts, ha, ea⟩ := ckEs_ok C es _ _ _ xs τs W k3
        obtain ⟨q1, q2, q3⟩ := q
        refine ⟨_, fun X g => ?_, Way.go (EvS.popAt ea k2 k6 k7 q2 q3).at_, fun _ e => by simp [frS] at e⟩
        have pe := popPE (p := p) (apos := apos) (cpos := cpos) (var_pe C k1 X g.toGood) (ha X g.toGood) k4 k5
        rw [g.K] at pe
        obtain ⟨h1, h2⟩ := locB_inv q1
        exact ps_set g.nd (by rw [g.N, ← C.N]; exact h1) (by rw [g.sc]; exact h2) pe rfl (.inl (g.fn _))
      · cases h
    · cases h
  | .popX i es, sc, Γb, Γ, st, τr, r, W, h => by
    unfold ckS at h
    split at h <;> first | (cases h; done) | skip
    split at h
    · rename_i t Γ1 e1
      cases h
      obtain ⟨y', p, apos, xs, cpos, τs, rfl, k1, k2, k3, k4, k5, k6, k7⟩ := ckPop_inv e1
      obtain ⟨ts, ha, ea⟩ := ckEs_ok C es _ _ _ xs τs W k3
      refine ⟨_, fun X g => ?_, Way.go (EvS.popX ea k2 k6 k7).at_, fun _ e => by simp [frS] at e⟩
      have pe := popPE (p := p) (apos := apos) (cpos := cpos) (var_pe C k1 X g.toGood) (ha X g.toGood) k4 k5
      rw [g.K] at pe
      exact ps_expr pe
    · cases h
  | .sdapp nw i k e, sc, Γb, Γ, st, τr, r, W, h => by
    unfold ckS at h
    obtain ⟨Γ1, e1, rfl⟩ := Option.map_eq_some_iff.mp h
    obtain ⟨ts, h1, h2⟩ := ckSd_ok (W := W) (Γb := Γb) (τr := τr) C e1
    exact ⟨ts, h1, Way.go h2.at_, fun _ e => by simp [frS] at e⟩
  | .callM j p i es, sc, Γb, Γ, st, τr, r, W, h => by
    unfold ckS at h
    obtain ⟨Γ1, e1, rfl⟩ := Option.map_eq_some_iff.mp h
    obtain ⟨ts, h1, h2, h3⟩ := ckCM_ok (W := W) (Γb := Γb) (τr := τr) C e1
    exact ⟨ts, h1, Way.go h2.at_, fun q _ => h3 q⟩
  | .co _ _, sc, Γb, Γ, st, τr, r, W, h => by
    exfalso
    unfold ckS at h
    cases h
  | .ite t a b cl, sc, Γb, Γ, st, τr, r, W, h => by
    unfold ckS at h
    split at h <;> first | (cases h; done) | skip
    rename_i u v w pos
    split at h
    · rename_i e0
      split at h
      · rename_i q
        obtain ⟨rfl, q⟩ := q
        split at h
        · rename_i ra rb e1 e2
          obtain ⟨_, k0⟩ := ckE_ok C t _ _ _ u _ W e0
          obtain ⟨tt, pt, et⟩ := k0 q rfl
          obtain ⟨ta, pa, wa, fa⟩ := ckB_ok C a _ _ _ v _ ra W e1
          obtain ⟨tb, pb, wb, fb⟩ := ckB_ok C b _ _ _ w _ rb W e2
          obtain ⟨j1, j2⟩ := joinR_inv h
          refine ⟨tIfS tt ta tb, fun X g => ps_if (pt X g.toGood).1 (pa X g) (pb X g), ⟨fun Γ' e => ?_, fun e ρ ρ' => ?_⟩, fun q e => ?_⟩
          · obtain ⟨ja, jb⟩ := j1 Γ' e
            refine (EvS.ite et (wa.br ja) (wb.br jb)).fn fun ρ => ?_
            show ((ev c t ρ).bind toB).fl (fun x => (if x then execB c a ρ else execB c b ρ).then fun ρ => .nx (clear cl ρ)) = _
            cases (ev c t ρ).bind toB with
            | ok x => cases x <;> rfl
            | ex _ => rfl
            | bad => rfl
          · obtain ⟨rfl, rfl⟩ := j2 e
            show ((ev c t ρ).bind toB).fl (fun x => (if x then execB c a ρ else execB c b ρ).then fun ρ => .nx (clear cl ρ)) ≠ _
            cases (ev c t ρ).bind toB with
            | ok x =>
              cases x with
              | true => exact then_ne (wa.2 rfl ρ) ρ'
              | false => exact then_ne (wb.2 rfl ρ) ρ'
            | ex _ => exact fun e => nomatch e
            | bad => exact fun e => nomatch e
          · simp only [frS, Bool.and_eq_true] at e
            exact Frm.ifS (fa q e.1) (fb q e.2)
        · cases h
      · cases h
    · cases h
  | .for it tg b cl, sc, Γb, Γ, st, τr, r, W, h => by
    unfold ckS at h
    split at h <;> first | (cases h; done) | skip
    rename_i tgx x body pos
    split at h
    · rename_i τi Γ1 e0
      split at h
      · rename_i Γl e1
        split at h
        · rename_i q
          cases h
          obtain ⟨q1, q2, q3, q4, q5⟩ := q
          obtain ⟨re, e2, e3⟩ := fixL_inv e1
          obtain ⟨wi, pi, ei⟩ := ckI_ok C it _ true _ Γ1 tgx x τi W e0
          obtain ⟨tb, pb, wb, fb⟩ := ckB_ok C b _ _ _ body _ re W e2
          refine ⟨tFor wi (gOf G.K tg) tb, fun X g => ps_for g.po g.calm (pi X g.toGood) (pg_fn g C.N q3) (pb X g) (set_iter q5), Way.go ?_, fun q e => frm_for e fb⟩
          obtain ⟨Γe, b1, b2⟩ := wb.loop e3 q2
          exact (EvS.for ei (EvG.of q4) b1 q1 b2 q2).fn fun ρ => rfl
        · cases h
      · cases h
    · cases h
  | .forE e tg b cl, sc, Γb, Γ, st, τr, r, W, h => by
    unfold ckS at h
    split at h <;> first | (cases h; done) | skip
    rename_i tgx f y ys ks p1 nm apos cpos p2 body pos
    split at h
    · rename_i t Γ1 e0
      split at h
      · rename_i Γl e1
        split at h
        · rename_i q
          cases h
          obtain ⟨q1, q2, q3, rfl, q5, q6, q7, q8, q9, q10⟩ := q
          obtain ⟨re, e2, e3⟩ := fixL_inv e1
          obtain ⟨⟨te, p3, ee⟩, _⟩ := ckE_ok C e _ _ _ _ _ W e0
          obtain ⟨tb, pb, wb, _⟩ := ckB_ok C b _ _ _ body _ re W e2
          obtain ⟨es, kk, q, rfl⟩ := isTuple_inv q6
          refine ⟨tFor (iRowE G.w te) (gOf G.K tg) tb, fun X g => ?_, Way.go ?_, fun _ e => by simp [frS] at e⟩
          · have := pi_rowE (elts := es) (kk := kk) (tpos := q) (p3 X g.toGood).1 (abase_args) q5
            rw [g.w] at this
            exact ps_for g.po g.calm this (pg_fn g C.N q9) (pb X g) (set_iter rfl)
          · obtain ⟨Γe, b1, b2⟩ := wb.loop e3 q8
            exact (EvS.forK (EvIK.rowE (ee.sub q1) q2 q3) (EvG.of q10) b1 q7 b2 q8).fn fun ρ => rfl
        · cases h
      · cases h
    · cases h
  | .forO i tg b cl, sc, Γb, Γ, st, τr, r, W, h => by
    unfold ckS at h
    split at h <;> first | (cases h; done) | skip
    rename_i tgx y py body pos
    split at h
    · rename_i Γl e1
      split at h
      · rename_i q
        cases h
        obtain ⟨q0, q6, q7, q8, q1, q2, q3, q4⟩ := q
        obtain ⟨re, e2, e3⟩ := fixL_inv e1
        obtain ⟨tb, pb, wb, fb⟩ := ckB_ok C b _ _ _ body _ re W e2
        obtain ⟨l1, l2, l3, l4⟩ := slotB_inv q6
        refine ⟨tFor (iList G.K (tVar i)) (gOf G.K tg) tb, fun X g => ps_for g.po g.calm ?_ (pg_fn g C.N q3) (pb X g) (set_iter rfl), Way.go ?_, fun _ e => by simp [frS] at e⟩
        · rw [← g.toGood.K]
          exact pi_list (pe_var (by rw [g.toGood.N, ← C.N]; exact l1) (by rw [g.toGood.sc]; exact l2) l3 l4)
        · obtain ⟨Γe, b1, b2⟩ := wb.loop e3 q2
          exact (EvS.forO (fun ρ => lenO (ρ.getD i .none)) q0 q7 (EvG.of q4) b1 (fb i q8) q1 b2 q2).fn fun ρ => rfl
      · cases h
    · cases h
  | .forR it i tg b cl, sc, Γb, Γ, st, τr, r, W, h => by
    unfold ckS at h
    split at h <;> first | (cases h; done) | skip
    rename_i tgx x body pos
    split at h
    · rename_i τi e0
      split at h
      · rename_i Γl e1
        split at h
        · rename_i q
          cases h
          obtain ⟨q1, q2, q3, q4, q5⟩ := q
          obtain ⟨re, e2, e3⟩ := fixL_inv e1
          obtain ⟨t1, k1, pi, ei⟩ := rowT_ok (W := W) C e0
          obtain ⟨tb, pb, wb, _⟩ := ckB_ok C b _ _ _ body _ re W e2
          refine ⟨tLkS (tFor (iRow G.w it i) (gOf G.K tg) tb), fun X g => ps_lkS (ps_for g.po g.calm (pi X g.toGood) (pg_fn g C.N q3) (pb X g) (set_iter q5)), Way.go ?_, fun _ e => by simp [frS] at e⟩
          obtain ⟨Γe, b1, b2⟩ := wb.loop e3 q2
          refine (EvS.lockS k1 (fun ρ hn => ?_) (fun ρ x => Fl.noex_ne) (EvSP.noex (EvS.forP ei (EvG.of q4) b1 q1 b2 q2))).fn fun ρ => rfl
          cases e : ρ.getD i .none with
          | dict kvs => exact absurd e (hn kvs)
          | _ => rfl
        · cases h
      · cases h
    · cases h
  | .while n t b cl, sc, Γb, Γ, st, τr, r, W, h => by
    unfold ckS at h
    split at h <;> first | (cases h; done) | skip
    rename_i u body pos
    split at h
    · rename_i Γl e1
      split at h
      · rename_i e0
        split at h
        · rename_i q
          cases h
          obtain ⟨rfl, q, q1, q2⟩ := q
          obtain ⟨re, e2, e3⟩ := fixL_inv e1
          obtain ⟨_, k0⟩ := ckE_ok C t _ _ _ u _ W e0
          obtain ⟨tt, pt, et⟩ := k0 q rfl
          obtain ⟨tb, pb, wb, fb⟩ := ckB_ok C b _ _ _ body _ re W e2
          refine ⟨tWhile tt tb, fun X g => ps_while g.po (pt X g.toGood).1 (pb X g), Way.go ?_, fun q e => Frm.whileS (fb q (by simpa [frS] using e))⟩
          obtain ⟨Γe, b1, b2⟩ := wb.loop e3 q2
          exact (EvS.while et b1 q1 b2 q2).fn fun ρ => rfl
        · cases h
      · cases h
    · cases h
  | .ret e, sc, Γb, Γ, st, τr, r, W, h => by
    unfold ckS at h
    split at h <;> first | (cases h; done) | skip
    rename_i x pos
    split at h
    · rename_i τ Γ1 e1
      split at h
      · rename_i q
        cases h
        obtain ⟨⟨te, p1, ee⟩, _⟩ := ckE_ok C e _ _ _ x τ W e1
        refine ⟨_, fun X g => ps_ret (p1 X g.toGood).1, Way.no (fun Γ' => (EvS.ret (ee.sub q)).fn fun ρ => rfl) fun ρ ρ' => ?_, fun _ _ => Frm.ret⟩
        show (ev c e ρ).fl .rt ≠ _
        cases ev c e ρ <;> exact fun e => nomatch e
      · cases h
    · cases h
  | .expr e, sc, Γb, Γ, st, τr, r, W, h => by
    unfold ckS at h
    split at h <;> first | (cases h; done) | skip
    rename_i x pos
    split at h
    · rename_i τ Γ1 e1
      split at h
      · rename_i q
        cases h
        obtain ⟨⟨te, p1, ee⟩, _⟩ := ckE_ok C e _ _ _ x τ W e1
        exact ⟨_, fun X g => ps_expr (p1 X g.toGood).1 (sw_none0 q.1 q.2), Way.go ((EvS.expr ee).at_.fn fun ρ => rfl), fun q _ => Frm.drop⟩
      · cases h
    · cases h
  | .brk, sc, Γb, Γ, st, τr, r, W, h => by
    unfold ckS at h
    split at h <;> first | (cases h; done) | skip
    split at h
    · rename_i q
      cases h
      exact ⟨_, fun X g => ps_break, Way.no (fun Γ' => (EvS.co EvS.brk q).fn fun ρ => rfl) (fun ρ ρ' e => nomatch e), fun q _ => Frm.brk⟩
    · cases h
  | .unr, sc, Γb, Γ, st, τr, r, W, h => by
    unfold ckS at h
    (cases h; exact ⟨fun _ _ _ => False, fun X g => ⟨fun _ _ _ _ _ _ q => q.elim⟩, Way.no (fun Γ' ρ σ H z m _ _ Dn q => q) (fun ρ ρ' e => nomatch e), fun q _ => Frm.none⟩)
  | .par i j es, sc, Γb, Γ, st, τr, r, W, h => by
    unfold ckS at h
    split at h <;> first | (cases h; done) | skip
    split at h
    · rename_i e1
      split at h
      · rename_i q
        cases h
        obtain ⟨q1, q2, q3, q4⟩ := q
        obtain ⟨ts, ha, ea⟩ := ckEs_ok C es _ _ _ _ _ W e1
        refine ⟨_, fun X g => ?_, Way.go ((EvS.par ea q3 q4).fn fun ρ => rfl), fun _ e => by simp [frS] at e⟩
        have q1' := q1
        unfold parB at q1'
        simp only [Bool.and_eq_true, decide_eq_true_eq] at q1'
        obtain ⟨⟨⟨⟨⟨⟨⟨⟨⟨⟨⟨h1, h2⟩, h3⟩, h4⟩, _⟩, _⟩, _⟩, _⟩, _⟩, _⟩, _⟩, h12⟩ := q1'
        exact ps_par g.calm g.nd (by rw [g.N, ← C.N]; exact h1) (by rw [g.N, ← C.N]; exact h2) q2 (by rw [g.sc]; exact h3) (by rw [g.sc]; exact h4) (ha X g.toGood).pa (swap_pair g.sc q1) rfl
      · cases h
    · cases h
  | .raise cls, sc, Γb, Γ, st, τr, r, W, h => by
    unfold ckS at h
    split at h <;> first | (cases h; done) | skip
    split at h
    · rename_i q
      cases h
      obtain ⟨rfl, q2, q3, q4⟩ := q
      obtain ⟨D, bmB, B, newId, initId, f1, f2, f3, f4, f5, f6⟩ := C.ex.mkx _ q4
      refine ⟨fun _ σ H => W (.ref D) none σ H, fun X g => ?_, Way.no (fun Γ' ρ σ H z m se ok Dn q => q (.ref D) none σ H ⟨f1, rfl⟩ fun a o h _ => h) (fun ρ ρ' e => nomatch e), fun _ e => by simp [frS] at e⟩
      have := g.gx
      subst this
      exact ps_raise g.calm g.tk (pmk_own f3 f4 f1 f2 (raises_own f5 f6) (g.gl q2) q3)
    · cases h
  | .raiseW cls fld e, sc, Γb, Γ, st, τr, r, W, h => by
    unfold ckS at h
    split at h <;> first | (cases h; done) | skip
    rename_i y p1 x p2 p3
    split at h
    · rename_i rr e1
      split at h
      · rename_i q
        cases h
        obtain ⟨rfl, q2, q3, q4, q5⟩ := q
        obtain ⟨⟨te, p1, e1⟩, _⟩ := ckE_ok C e _ _ _ x _ W e1
        obtain ⟨D, fI, fd, xn, m1, m2, m3, m4, m5, m6, m7, m8, m9⟩ := (C.ex.mkw _ _ q2).ok
        refine ⟨tRaiseW D fld W te, fun X g => ?_, Way.no (fun Γ' => (EvS.raiseW e1 m1).at_.fn fun ρ => rfl) (fun ρ ρ' e => ?_), fun _ e => by simp [frS] at e⟩
        · have := g.gx
          subst this
          exact ps_raise g.calm g.tk (pmk_oex m2 m3 m4 m6 (g.room.mono m5) m7 .nil (passes_call g.tk fun _ _ _ _ h => h.elim) (g.gl q3) m1 (pa_cons (p1 X g.toGood).1 pa_nil (star_of q5 _ _)) q4 (star_of q5 _ _) rfl)
        · change (ev c _ ρ).fl _ = _ at e
          cases e2 : ev c ‹E› ρ with
          | ok d =>
            rw [e2, Res.fl_ok] at e
            split at e <;> cases e
          | ex _ => rw [e2] at e; cases e
          | bad => rw [e2] at e; cases e
      · cases h
    · cases h
  | .try b i yes no hb cl, sc, Γb, Γ, st, τr, r, W, h => by
    unfold ckS at h
    split at h <;> first | (cases h; done) | skip
    split at h
    · rename_i q
      obtain ⟨q1, q2, q3, q4, q5, q6, q7, q8⟩ := q
      split at h
      · rename_i Γ1 Γh e1 e2
        split at h
        · rename_i q9
          obtain ⟨j1, j2⟩ := joinR_inv h
          cases r with
          | none => obtain ⟨e, _⟩ := j2 rfl; cases e
          | some Γ2 =>
            obtain ⟨l1, l2⟩ := j1 Γ2 fun _ e => by cases e; rfl
            obtain ⟨ts, p1, ev⟩ := try_ok (τr := τr) (cl := cl) C q1 q2 q3 q4 q5 q6 q7 e1 e2 q9 q8 (l1 _ rfl) (l2 _ rfl) W (C.blt _ (by decide))
            refine ⟨ts, p1, Way.go (ev.fn fun ρ => ?_), fun _ e => by simp [frS] at e⟩
            show ((catchX _ _ _ (execB c (.cons _ .nil) ρ)).then _) = _
            rw [exec_one]
        · cases h
      · cases h
    · cases h
  | .tryR b yes no k, sc, Γb, Γ, st, τr, r, W, h => by
    unfold ckS at h
    split at h <;> first | (cases h; done) | skip
    split at h
    · rename_i q
      obtain ⟨q1, q2, q3, q4, q5, q6⟩ := q
      split at h
      · rename_i Γ1 e1
        cases h
        obtain ⟨ts, p1, ev⟩ := tryR_ok (τr := τr) C q1 q2 q3 q4 q5 q6 e1 W
        refine ⟨ts, p1, Way.go (ev.fn fun ρ => ?_), fun _ e => by simp [frS] at e⟩
        show catchX _ _ _ (execB c (.cons _ .nil) ρ) = _
        rw [exec_one]
      · cases h
    · cases h
theorem ckB_ok (C : CallsOk G lv F c) : ∀ (b : B) (sc : Scope) (Γb Γ : TyEnv) (ss : List Stmt) (τr : Ty) (r : Option TyEnv) (W : WX), ckB F τr b sc Γb Γ ss = some r → ∃ ts, (∀ X, GoodS G lv W sc X → PSs X ss ts) ∧ Way G W ts Γ Γb τr r (execB c b) ∧ ∀ q, frB q b = true → Frm q ts
  | .nil, sc, Γb, Γ, ss, τr, r, W, h => by
    unfold ckB at h
    split at h <;> first | (cases ‹B.nil = _›) | cases h
    cases h
    exact ⟨tNext, fun X g => pss_nil, Way.go (EvS.nil.fn fun ρ => rfl), fun q _ => Frm.next⟩
  | .cons s b, sc, Γb, Γ, ss, τr, r, W, h => by
    unfold ckB at h
    split at h <;> first | (cases ‹B.cons _ _ = _›) | cases h
    · first
        | (cases h; exact ⟨fun _ _ _ => False, fun X g => ⟨fun _ _ _ _ _ _ q => q.elim⟩, Way.no (fun Γ' ρ σ H z m _ _ Dn q => q) (fun ρ ρ' e => by cases (show (Fl.bad : Fl) = .nx ρ' from e)), fun q _ => Frm.none⟩)
        | exact ⟨fun _ _ _ => False, fun X g => ⟨fun _ _ _ _ _ _ q => q.elim⟩, Way.no (fun Γ' ρ σ H z m _ _ Dn q => q) (fun ρ ρ' e => by cases (show (Fl.bad : Fl) = .nx ρ' from e)), fun q _ => Frm.none⟩
    · rename_i i t
      split at h
      · rename_i τ e1
        split at h
        · rename_i q
          obtain ⟨ts, h1, h2, h3⟩ := ckB_ok C b _ _ _ _ _ r W h
          refine ⟨ts, h1, ⟨fun Γ' e => (EvS.co (h2.1 Γ' e) q.2).fn fun ρ => rfl, fun e ρ ρ' => h2.2 e ρ ρ'⟩, fun q e => h3 q (by simp only [frB, Bool.and_eq_true] at e; exact e.2)⟩
        · cases h
      · cases h
    · rename_i st ss hn0 hn
      split at h
      · rename_i Γ1 e1
        obtain ⟨ts, h1, h2, h3⟩ := ckS_ok C s _ _ _ _ _ _ W e1
        obtain ⟨us, k1, k2, k3⟩ := ckB_ok C b _ _ _ _ _ r W h
        refine ⟨tSeq ts us, fun X g => pss_cons (h1 X g) (k1 X g), ⟨fun Γ' e => (EvS.seq (h2.1 Γ1 fun _ e => by cases e; rfl) (k2.1 Γ' e)).fn fun ρ => rfl, fun e ρ ρ' => ?_⟩, fun q e => by simp only [frB, Bool.and_eq_true] at e; exact Frm.seq (h3 q e.1) (k3 q e.2)⟩
        show (exec c s ρ).then (execB c b) ≠ _
        cases exec c s ρ with
        | nx ρ1 => exact k2.2 e ρ1 ρ'
        | _ => exact fun e => nomatch e
      · rename_i e1
        split at h
        · rename_i q
          cases h
          rw [Bool.and_eq_true] at q
          obtain ⟨q1, q2⟩ := q
          cases b with
          | cons _ _ => cases q1
          | nil =>
            cases ss with
            | cons _ _ => cases q2
            | nil =>
              obtain ⟨ts, h1, h2, h3⟩ := ckS_ok C s _ _ _ st _ _ W e1
              exact ⟨ts, fun X g => pss_one (h1 X g), Way.no (fun Γ' => (EvS.one (h2.1 Γ' fun _ e => by cases e)).fn fun ρ => rfl) (fun ρ ρ' => then_ne (h2.2 rfl ρ) ρ'), fun q e => by simp only [frB, Bool.and_eq_true] at e; exact h3 q e.1⟩
        · cases h
      · cases h
end
end En

set_option Elab.async false
set_option linter.all false
set_option autoImplicit false
set_option maxRecDepth 100000
set_option maxHeartbeats 1000000
namespace En
open PySem PySem.Spec PyProof.Rows L2 RZ

/-! ## a def -/
def env0 (ts : List Ty) (n : Nat) : TyEnv := ts.map some ++ List.replicate (n - ts.length) none
def okDef (F : FI) (ts : List Ty) (τ : Ty) (b : B) (st : Stmt) : Bool := (ckB F τ b (defScope st) [] (env0 ts F.N.length) (defBody st)).isSome && decide (ts.length ≤ F.N.length)
theorem RA.se {F : Fx} {H : Hp} {z : Addr → Prop} : ∀ {ts : List Ty} {ds : List D} {vs : List V} {m : Ow}, RA F H z ts ds vs m → ∀ k : Nat, SE F H z (ts.map some ++ List.replicate k none) (ds ++ List.replicate k .none) (vs.map some ++ List.replicate k none) m
  | _, _, _, m, .nil q, k => by
    show SE F H z (List.replicate k none) (List.replicate k .none) (List.replicate k none) m
    induction k with
    | zero => exact .nil q
    | succ k ih => exact .no ih
  | _, _, _, m, .cons a b c, k => .yes a (RA.se b k) c
theorem fun_toD {K : PySem.W.Frag} {x qual : Str} {st : Stmt} {f : Addr} {fd : FuncData} (F : L2.Fun K x qual st f fd) : L2.FunD K x qual (defArgs st) (defBody st) (defScope st) [] [] f fd := by
  obtain ⟨⟨oc, od, kV, doc, pm, an, cdv, ct, osl, e, l, c⟩, k⟩ := F
  exact ⟨⟨oc, od, _, kV, doc, pm, an, cdv, ct, osl, e, l, c, .inl ⟨rfl, rfl⟩, .inl rfl⟩, k⟩
theorem funD_mk {K : PySem.W.Frag} {x qual : Str} {st : Stmt} {f T : Addr} {oc oc' : Value} {od od' an : Option Addr} {osl osl' : Array (Option Value)} {kV doc pm cdv ct : Value} {n : Nat} {dvs : List V} {its : List Value}
    (l : K.lookup f = some ⟨oc, od, .func (PySem.W.fnOf x qual (defArgs st) (defBody st) (defScope st) (.ref T) kV doc pm an cdv ct), osl⟩)
    (c : PySem.W.codeIn K cdv qual = true) (k : PySem.W.keepIn K (.ref f) = true) (t : K.lookup T = some ⟨oc', od', .seq its.toArray n, osl'⟩) (h : dvs ≠ []) (r : Vals dvs its) :
    L2.FunD K x qual (defArgs st) (defBody st) (defScope st) dvs [] f (PySem.W.fnOf x qual (defArgs st) (defBody st) (defScope st) (.ref T) kV doc pm an cdv ct) :=
  ⟨⟨oc, od, _, kV, doc, pm, an, cdv, ct, osl, rfl, l, c, .inr ⟨h, T, _, its, n, rfl, t, rfl, r⟩, .inl rfl⟩, k⟩
theorem def_ok {P : Program} {w : World} {K : PySem.W.Frag} {mg : Str → Option Value} {base : Heap} {x qual : Str} {st : Stmt} {f : Addr} {fd : FuncData} {N ps : List Str} {k : Nat} {F : FI} {c : Cg} {ts : List Ty} {τ : Ty} {b : B}
    {dvs : List V} {kws : List (Str × V)} (Fn : L2.FunD K x qual (defArgs st) (defBody st) (defScope st) dvs kws f fd) (S : FnScope N ps (defScope st)) (C : CallsOk ⟨P, w, K, mg, base, N⟩ k F c) (hl : ts.length = ps.length) (hb : okDef F ts τ b st = true) (blt : ∀ x ∈ blts, mg x = none) :
    FnOk P w K mg base (L2.CX P w) (k + 1) f fd ps (spOf ⟨P, w, K, mg, base, N⟩ ts τ (runB c b N.length)) := by
  have hN : F.N = N := C.N
  unfold okDef at hb
  rw [Bool.and_eq_true] at hb
  obtain ⟨hb, hlen⟩ := hb
  have hlen : ts.length ≤ N.length := by rw [← hN]; exact of_decide_eq_true hlen
  rw [hN] at hb
  obtain ⟨r, er⟩ := Option.isSome_iff_exists.mp hb
  refine L2.FunD.ok Fn S (fun vs H Q E h => ?_) fun cdv A outer s H vs Q E hr h => ?_
  · obtain ⟨ds, z, ra, _⟩ := h
    rw [← ra.length.1, hl]
  · obtain ⟨ds, z, ra, hz, hp⟩ := h
    obtain ⟨t, ht, wy, _⟩ := ckB_ok C b _ _ _ _ _ r (fun cls d _ H => E cls d H) er
    refine ⟨t, ht _ ⟨⟨rfl, rfl, rfl, hr, takes_of rfl rfl rfl rfl, blt, S.nd⟩, fun _ => rfl, passes_of rfl, rfl, rfl⟩, ?_⟩
    have hΓ : ∃ Γ', ∀ Γ1, r = some Γ1 → Γ' = Γ1 := by
      cases r with
      | none => exact ⟨[], fun _ e => by cases e⟩
      | some Γ1 => exact ⟨Γ1, fun _ e => by cases e; rfl⟩
    obtain ⟨Γ', hΓ⟩ := hΓ
    obtain ⟨l1, l2⟩ := ra.length
    have se : SE (Gx.F ⟨P, w, K, mg, base, N⟩) H z (env0 ts N.length) (ds ++ List.replicate (N.length - ts.length) PyData.none) (vs.map some ++ List.replicate (N.length - ts.length) none) (fun _ => 0) := ra.se (N.length - ts.length)
    have ok : Ok H z fun _ => 0 := fun a => ⟨Nat.zero_le _, fun e => absurd (show (0 : Nat) = 1 from e) (by decide), hz a⟩
    have eσ : start N vs = vs.map some ++ List.replicate (N.length - ts.length) none := by rw [l1]; rfl
    rw [eσ]
    refine wy.1 Γ' hΓ (ds ++ List.replicate (N.length - ts.length) PyData.none) _ H z (fun _ => 0) se ok _ ?_
    unfold runB at hp
    have el : N.length - ds.length = N.length - ts.length := by rw [l2, l1]
    rw [el] at hp
    cases e : execB c b (ds ++ List.replicate (N.length - ts.length) PyData.none) with
    | nx ρ' =>
      rw [e] at hp
      intro σ' H' z' m' se' st'
      exact hp .non H' z' (fun _ => 0) (Rp.atom rfl) (st'.drop fun _ => Nat.zero_le _)
    | rt d =>
      rw [e] at hp
      exact fun v H' z' mv rp st' => hp v H' z' mv rp st'
    | bk ρ' => rw [e] at hp; exact hp.elim
    | ex x =>
      rw [e] at hp
      exact fun c dx σ' H' xr kp => hp c dx H' xr fun a o q => kp a o q rfl
    | bad => rw [e] at hp; exact hp.elim

/-! ## a def that changes its parameter p -/
def okDefM (F : FI) (p : Nat) (τ : Ty) (ts : List Ty) (b : B) (st : Stmt) : Bool := (match ckB F .I b (defScope st) [] (env0 (ins p τ ts) F.N.length) (defBody st) with
  | some (some Γ1) => decide (Γ1[p]? = some (some τ))
  | _ => false) && frB p b && decide (p ≤ ts.length) && decide (ts.length + 1 ≤ F.N.length)
theorem ins_length {α : Type} {p : Nat} {x : α} {l : List α} (h : p ≤ l.length) : (ins p x l).length = l.length + 1 := by
  unfold ins
  simp only [List.length_append, List.length_cons, List.length_take, List.length_drop]
  omega
theorem ins_at {α : Type} {p : Nat} {x : α} {l : List α} (h : p ≤ l.length) : (ins p x l)[p]? = some x := by
  unfold ins
  rw [List.getElem?_append_right (by simp [Nat.min_eq_left h])]
  simp [Nat.min_eq_left h]
theorem defM_ok {P : Program} {w : World} {K : PySem.W.Frag} {mg : Str → Option Value} {base : Heap} {x qual : Str} {st : Stmt} {f : Addr} {fd : FuncData} {N ps : List Str} {k : Nat} {F : FI} {c : Cg} {p : Nat} {ts : List Ty} {τ : Ty} {b : B}
    {dvs : List V} {kws : List (Str × V)} (Fn : L2.FunD K x qual (defArgs st) (defBody st) (defScope st) dvs kws f fd) (S : FnScope N ps (defScope st)) (C : CallsOk ⟨P, w, K, mg, base, N⟩ k F c) (hl : ts.length + 1 = ps.length) (hb : okDefM F p τ ts b st = true) (blt : ∀ x ∈ blts, mg x = none) :
    FnOk P w K mg base (L2.CX P w) (k + 1) f fd ps (spM ⟨P, w, K, mg, base, N⟩ p τ ts (runM c b N.length p)) := by
  have hN : F.N = N := C.N
  unfold okDefM at hb
  rw [Bool.and_eq_true, Bool.and_eq_true, Bool.and_eq_true] at hb
  obtain ⟨⟨⟨hb, hf⟩, hp⟩, hlen⟩ := hb
  have hp : p ≤ ts.length := of_decide_eq_true hp
  have hlen : ts.length + 1 ≤ N.length := by rw [← hN]; exact of_decide_eq_true hlen
  rw [hN] at hb
  split at hb
  case h_2 => cases hb
  rename_i Γ1 er
  have hg := of_decide_eq_true hb
  refine L2.FunD.ok Fn S (fun vs H Q E h => ?_) fun cdv A outer s H vs Q E hr h => ?_
  · obtain ⟨ds, d, v, vs0, z, m, rfl, ra, _⟩ := h
    rw [ins_length (by rw [← ra.length.1]; exact hp), ← ra.length.1, hl]
  · obtain ⟨ds, d, v, vs0, z, m, rfl, ra, rv, ok, hq⟩ := h
    obtain ⟨t, ht, wy, hfr⟩ := ckB_ok C b _ _ _ _ _ _ (fun cls d _ H => E cls d H) er
    refine ⟨t, ht _ ⟨⟨rfl, rfl, rfl, hr, takes_of rfl rfl rfl rfl, blt, S.nd⟩, fun _ => rfl, passes_of rfl, rfl, rfl⟩, ?_⟩
    obtain ⟨l1, l2⟩ := ra.length
    have hp1 : p ≤ vs0.length := by rw [← l1]; exact hp
    have lv : (ins p v vs0).length = ts.length + 1 := by rw [ins_length hp1, ← l1]
    have ld : (ins p d ds).length = ts.length + 1 := by rw [ins_length (by rw [l2]; exact hp1), l2, ← l1]
    have lt : (ins p τ ts).length = ts.length + 1 := ins_length hp
    have ra2 := (RA.ins (p := p) ra rv).eqm (m' := m) fun b => by simp
    have se : SE (Gx.F ⟨P, w, K, mg, base, N⟩) H z (env0 (ins p τ ts) N.length) (ins p d ds ++ List.replicate (N.length - (ts.length + 1)) PyData.none) ((ins p v vs0).map some ++ List.replicate (N.length - (ts.length + 1)) none) m := by
      have := ra2.se (N.length - (ts.length + 1))
      unfold env0
      rw [lt]
      exact this
    have eσ : start N (ins p v vs0) = (ins p v vs0).map some ++ List.replicate (N.length - (ts.length + 1)) none := by rw [← lv]; rfl
    rw [eσ]
    have σp : ((ins p v vs0).map some ++ List.replicate (N.length - (ts.length + 1)) none)[p]? = some (some v) := by
      rw [List.getElem?_append_left (by rw [List.length_map, lv]; omega), List.getElem?_map, ins_at hp1]
      rfl
    -- slot p stays
    refine hfr p hf (some (some v)) ⟨fun σ' H' => σ'[p]? = some (some v) → Q .non H', Q, fun _ _ => False, fun _ _ => False⟩ ⟨fun _ H' => Q .non H', Q, fun _ _ => False, fun _ _ => False⟩ ⟨fun σ' H' e => ⟨fun q => q e, fun q _ => q⟩, fun _ _ _ => Iff.rfl, fun _ _ _ => Iff.rfl, rfl⟩ _ _ σp ?_
    refine wy.1 Γ1 (fun _ e => by cases e; rfl) _ _ H z m se ok _ ?_
    unfold runM at hq
    have el : N.length - (ins p d ds).length = N.length - (ts.length + 1) := by rw [ld]
    rw [el] at hq
    cases e : execB c b (ins p d ds ++ List.replicate (N.length - (ts.length + 1)) PyData.none) with
    | nx ρ' =>
      rw [e] at hq
      intro σ' H' z' m' se' st' hσ
      obtain ⟨v', n1, n2, g1, g2, g3, g4⟩ := se'.get hg
      rw [hσ] at g1
      cases g1
      exact hq H' z' n1 g2 (st'.drop fun b => by have := g4 b; omega)
    | rt d => rw [e] at hq; exact hq.elim
    | bk ρ' => rw [e] at hq; exact hq.elim
    | ex x => rw [e] at hq; exact hq.elim
    | bad => rw [e] at hq; exact hq.elim

/-! ## recursion: the levels -/
theorem bad_ok {P : Program} {w : World} {K : PySem.W.Frag} {mg : Str → Option Value} {base : Heap} {f : Addr} {fd : FuncData} {ps : List Str} {k : Nat} {G : Gx} {ts : List Ty} {τ : Ty} : FnOk P w K mg base (L2.CX P w) k f fd ps (spOf G ts τ fun _ => .bad) :=
  ⟨fun vs H Q E h => by obtain ⟨ds, z, _, _, h⟩ := h; exact h.elim, fun A outer s H args us vs Q E _ _ _ _ h => by obtain ⟨ds, z, _, _, h⟩ := h; exact h.elim⟩

/-! ## the law -/
theorem law_spQ {G : Gx} {f : Fun} {H : Hp} {a : Addr} {ns : List Int} {Q : VK} {E : XK} (h : f [.list (ns.map .int)] = .ok (.bool true)) (hS : SqL G.K H a (ns.map V.int)) (hq : ∀ H', Q (.bl true) H') :
    spOf G [.N .f .I] .I f [.ref a] H Q E := by
  have hz : ∀ a, (fun a => H a ≠ none) a → H a ≠ none := fun _ q => q
  have rl : ∀ ns : List Int, RL G.F H (fun a => H a ≠ none) .I (ns.map PyData.int) (ns.map V.int) fun _ => 0 := by
    intro ns
    induction ns with
    | nil => exact .nil fun _ => rfl
    | cons x xs ih => exact RL.cons' (m1 := fun _ => 0) (m2 := fun _ => 0) (Rp.atom rfl) ih fun _ => rfl
  have rz : ∀ {o : HO}, Rd H a o → H a ≠ none := fun {o} h => by rcases h with h | ⟨_, h⟩ <;> rw [h] <;> simp
  refine ⟨[.list (ns.map .int)], fun a => H a ≠ none, .cons (m1 := fun _ => 0) (m2 := fun _ => 0) (Rp.mkL (q := .f) (m0 := fun _ => 0) (m1 := fun _ => 0) ⟨?_, fun _ => rfl⟩ (rl ns) fun _ => rfl) (.nil fun _ => rfl) fun _ => rfl, hz, ?_⟩
  · rcases hS with h | h
    · exact .inl ⟨h, rz h⟩
    · exact .inr h
  · rw [h]
    intro v H' z' m' rp st
    rw [Rp.bl_inv rp]
    exact hq H'
theorem cx_false {P : Program} {w : World} {H : Hp} {s s' : Shared} {e : Value} (h : L2.CX P w [] H s (fun _ _ _ => False) e s') : False := by
  obtain ⟨a, B, H', cls, d, _, _, _, _, _, _, _, h⟩ := h
  exact h
end En

set_option Elab.async false
set_option linter.all false
set_option autoImplicit false
set_option maxRecDepth 100000
set_option maxHeartbeats 1000000
namespace En
open PySem PySem.Spec PyProof.Rows L2 RZ

/-! ## the defs of a text, one by one -/
/-- the defaults that may be left out -/
def Dfs (K : PySem.W.Frag) (fd : FuncData) (ps : List Str) (dfs : List (List Kt)) : Prop := ∀ ks : List Kt, ks ∈ dfs → ∃ (dss : List Value) (dvs : List V), Binds K fd ps dss ∧ Vals dvs dss ∧ dvs.map some = ks.map fun k => atomV k.d
theorem Dfs.nil {K : PySem.W.Frag} {fd : FuncData} {ps : List Str} (h : Binds K fd ps []) : Dfs K fd ps [[]] := by
  intro ks hk
  simp only [List.mem_singleton] at hk
  subst hk
  exact ⟨[], [], h, .nil, rfl⟩
theorem Dfs.none {K : PySem.W.Frag} {fd : FuncData} {ps : List Str} : Dfs K fd ps [] := by
  intro ks hk
  cases hk
theorem Dfs.cons {K : PySem.W.Frag} {fd : FuncData} {ps : List Str} {ks : List Kt} {dfs : List (List Kt)} {dvs : List V} (h : ∃ ds, Vals dvs ds ∧ Binds K fd ps ds) (e : dvs.map some = ks.map fun k => atomV k.d) (r : Dfs K fd ps dfs) : Dfs K fd ps (ks :: dfs) := by
  intro k' hk
  rcases List.mem_cons.mp hk with rfl | hk
  · obtain ⟨ds, h1, h2⟩ := h
    exact ⟨ds, dvs, h2, h1, e⟩
  · exact r k' hk
/-- what holds of a name of the module that is a def -/
def DefOk (P : Program) (w : World) (K : PySem.W.Frag) (mg : Str → Option Value) (base : Heap) (k : Nat) (x : Str) (ts : List Ty) (τ : Ty) (dfs : List (List Kt)) (fn : Fun) : Prop :=
  ∃ (f : Addr) (fd : FuncData) (ps : List Str), mg x = some (.ref f) ∧ PySem.W.keepIn K (.ref f) = true ∧ Dfs K fd ps dfs ∧ FnOk P w K mg base (L2.CX P w) k f fd ps (spOf ⟨P, w, K, mg, base, []⟩ ts τ fn)
variable {P : Program} {w : World} {K : PySem.W.Frag} {mg : Str → Option Value} {base : Heap}
/-- the callees, in their order -/
inductive CallsL (P : Program) (w : World) (K : PySem.W.Frag) (mg : Str → Option Value) (base : Heap) (k : Nat) : List (Str × List Ty × Ty × List (List Kt)) → List Fun → Prop
  | nil {fs : List Fun} : CallsL P w K mg base k [] fs
  | cons {x : Str} {ts : List Ty} {τ : Ty} {dfs : List (List Kt)} {fn : Fun} {cs : List (Str × List Ty × Ty × List (List Kt))} {fs : List Fun} (j : Nat) : DefOk P w K mg base j x ts τ dfs fn → j ≤ k → CallsL P w K mg base k cs fs → CallsL P w K mg base k ((x, ts, τ, dfs) :: cs) (fn :: fs)
theorem CallsL.get {k : Nat} {cs : List (Str × List Ty × Ty × List (List Kt))} {fs : List Fun} (h : CallsL P w K mg base k cs fs) : ∀ (j : Nat) (x : Str) (ts : List Ty) (t : Ty) (dfs : List (List Kt)), cs[j]? = some (x, ts, t, dfs) → ∃ (fn : Fun) (i : Nat), fs[j]? = some fn ∧ i ≤ k ∧ DefOk P w K mg base i x ts t dfs fn := by
  induction h with
  | nil => intro j x ts t dfs e; simp at e
  | cons i d l _ ih =>
    intro j x ts t dfs e
    cases j with
    | zero => cases e; exact ⟨_, i, rfl, l, d⟩
    | succ j => exact ih j x ts t dfs (by simpa using e)
/-- a constant of the module: what stands there -/
def GV (F : Fx) (d : D) (u : Value) : Prop := ∃ v, RelV v u ∧ ∀ (H : Hp) (z : Addr → Prop) (τ : Ty), Rp F H z τ d v fun _ => 0
theorem GV.int {F : Fx} {i : Int} {t : Tok} : GV F (.int i) (.int i t) := ⟨.int i, ⟨t, rfl⟩, fun H z τ => .cons (τ' := τ) (m0 := fun _ => 0) (m1 := fun _ => 0) (m2 := fun _ => 0) (.int fun _ => rfl) (.nil fun _ => rfl) (.nil fun _ => rfl) fun _ => rfl⟩
/-- the items of a tuple of constants -/
def GVs (F : Fx) (ds : List D) (us : List Value) : Prop := ∃ vs, Vals vs us ∧ ∀ (H : Hp) (z : Addr → Prop) (τ : Ty), RL F H z τ ds vs fun _ => 0
theorem GVs.nil {F : Fx} : GVs F [] [] := ⟨[], .nil, fun H z τ => .nil fun _ => rfl⟩
theorem GVs.cons {F : Fx} {d : D} {u : Value} {ds : List D} {us : List Value} (h : GV F d u) (k : GVs F ds us) : GVs F (d :: ds) (u :: us) := by
  obtain ⟨v, r, h⟩ := h
  obtain ⟨vs, rs, k⟩ := k
  exact ⟨v :: vs, .cons r rs, fun H z τ => RL.cons' (h H z τ) (k H z τ) fun _ => rfl⟩
theorem GV.tup {F : Fx} {ds : List D} {us : List Value} {a : Addr} {dd : Option Addr} {n : Nat} {sl : Array (Option Value)} (l : F.K.lookup a = some ⟨.type "tuple", dd, .seq us.toArray n, sl⟩) (k : GVs F ds us) (hl : us.length ≤ sizeLine) : GV F (.tuple ds) (.ref a) := by
  obtain ⟨vs, rs, k⟩ := k
  refine ⟨.ref a, rfl, fun H z τ => ?_⟩
  exact .cons (τ' := τ) (m0 := fun _ => 0) (m1 := fun _ => 0) (m2 := fun _ => 0) (.tup (.inr ⟨_, _, n, l, rfl, rfl, by simpa using hl, by simpa using rs⟩) fun _ => rfl) (k H z τ) (.nil fun _ => rfl) fun _ => rfl
/-- the constants that a def reads -/
inductive GlobL (F : Fx) (mg : Str → Option Value) : List (Str × Ty) → List D → Prop
  | nil : GlobL F mg [] []
  | cons {x : Str} {t : Ty} {d : D} {u : Value} {gs : List (Str × Ty)} {ds : List D} : mg x = some u → GV F d u → GlobL F mg gs ds → GlobL F mg ((x, t) :: gs) (d :: ds)
theorem GlobL.get {F : Fx} {gs : List (Str × Ty)} {ds : List D} (h : GlobL F mg gs ds) : ∀ (j : Nat) (x : Str) (t : Ty), gs[j]? = some (x, t) → ∃ (d : D) (u : Value), ds[j]? = some d ∧ mg x = some u ∧ GV F d u := by
  induction h with
  | nil => intro j x t e; simp at e
  | cons a b _ ih =>
    intro j x t e
    cases j with
    | zero => cases e; exact ⟨_, _, rfl, a, b⟩
    | succ j => exact ih j x t (by simpa using e)
/-- a def that changes a parameter -/
def DefOkM (P : Program) (w : World) (K : PySem.W.Frag) (mg : Str → Option Value) (base : Heap) (k : Nat) (x : Str) (p : Nat) (τ : Ty) (ts : List Ty) (fn : Fun) : Prop :=
  ∃ (f : Addr) (fd : FuncData) (ps : List Str), mg x = some (.ref f) ∧ PySem.W.keepIn K (.ref f) = true ∧ Binds K fd ps [] ∧ FnOk P w K mg base (L2.CX P w) k f fd ps (spM ⟨P, w, K, mg, base, []⟩ p τ ts fn)
inductive CallsM (P : Program) (w : World) (K : PySem.W.Frag) (mg : Str → Option Value) (base : Heap) (k : Nat) : List (Str × Nat × Ty × List Ty) → List Fun → Prop
  | nil : CallsM P w K mg base k [] []
  | cons {x : Str} {p : Nat} {τ : Ty} {ts : List Ty} {fn : Fun} {cs : List (Str × Nat × Ty × List Ty)} {fs : List Fun} (j : Nat) : DefOkM P w K mg base j x p τ ts fn → j ≤ k → CallsM P w K mg base k cs fs → CallsM P w K mg base k ((x, p, τ, ts) :: cs) (fn :: fs)
theorem CallsM.get {k : Nat} {cs : List (Str × Nat × Ty × List Ty)} {fs : List Fun} (h : CallsM P w K mg base k cs fs) : ∀ (j : Nat) (x : Str) (p : Nat) (τ : Ty) (ts : List Ty), cs[j]? = some (x, p, τ, ts) → ∃ (fn : Fun) (i : Nat), fs[j]? = some fn ∧ i ≤ k ∧ DefOkM P w K mg base i x p τ ts fn := by
  induction h with
  | nil => intro j x p τ ts e; simp at e
  | cons i d l _ ih =>
    intro j x p τ ts e
    cases j with
    | zero => cases e; exact ⟨_, i, rfl, l, d⟩
    | succ j => exact ih j x p τ ts (by simpa using e)
theorem CallsL.ok {k : Nat} {F : FI} {c : Cg} {N : List Str} (h : CallsL P w K mg base k F.calls c.fs) (hg : GlobL ⟨K, w⟩ mg F.gs c.gs) (hN : F.N = N) (hx : XOkF ⟨P, w, K, mg, base, N⟩ k F.ex) (blt : ∀ x ∈ blts, mg x = none) (hled : ∀ (j : Nat) (ts : List Ty) (t : Ty), F.led = some (j, ts, t) → ∃ fn, c.fs[j]? = some fn ∧ LedOk ⟨P, w, K, mg, base, N⟩ k ts t fn) (hm : CallsM P w K mg base k F.ms c.ms) : CallsOk ⟨P, w, K, mg, base, N⟩ k F c where
  led := hled
  chg := fun j x p τ ts e => by
    obtain ⟨fn, i, e1, l, f, fd, ps, h1, h2, h3, h4⟩ := hm.get j x p τ ts e
    exact ⟨fn, f, fd, i, ps, e1, h1, h2, l, h4, h3⟩
  call := fun j x ts t dfs e => by
    obtain ⟨fn, i, e1, l, f, fd, ps, h1, h2, h3, h4⟩ := h.get j x ts t dfs e
    exact ⟨fn, f, fd, i, ps, e1, h1, h2, l, h4, h3⟩
  glob := fun j x t e => by
    obtain ⟨d, u, e1, e2, v, r, k⟩ := hg.get j x t e
    exact ⟨d, v, u, e1, e2, r, fun H z => k H z t⟩
  N := hN
  ex := hx
  blt := blt
theorem def_mk {x : Str} {st : Stmt} {f : Addr} {fd : FuncData} {ps : List Str} {k : Nat} {F : FI} {c : Cg} {ts : List Ty} {τ : Ty} {b : B} (hm : mg x = some (.ref f)) {dvs : List V} {kws : List (Str × V)} {dfs : List (List Kt)} (Fn : L2.FunD K x x (defArgs st) (defBody st) (defScope st) dvs kws f fd) (bd : Dfs K fd ps dfs) (S : FnScope F.N ps (defScope st)) (C : CallsL P w K mg base k F.calls c.fs) (hg : GlobL ⟨K, w⟩ mg F.gs c.gs)
    (hx : XOkF ⟨P, w, K, mg, base, F.N⟩ k F.ex) (hl : ts.length = ps.length) (hb : okDef F ts τ b st = true) (blt : ∀ x ∈ blts, mg x = none) (hled : ∀ (j : Nat) (ts : List Ty) (t : Ty), F.led = some (j, ts, t) → ∃ fn, c.fs[j]? = some fn ∧ LedOk ⟨P, w, K, mg, base, F.N⟩ k ts t fn := by exact fun _ _ _ e => nomatch e) (hms : CallsM P w K mg base k F.ms c.ms := by exact .nil) : DefOk P w K mg base (k + 1) x ts τ dfs (runB c b F.N.length) :=
  ⟨f, fd, ps, hm, Fn.kp, bd, def_ok Fn S (C.ok hg rfl hx blt hled hms) hl hb blt⟩
theorem def_mkM {x : Str} {st : Stmt} {f : Addr} {fd : FuncData} {ps : List Str} {k : Nat} {F : FI} {c : Cg} {p : Nat} {ts : List Ty} {τ : Ty} {b : B} (hm : mg x = some (.ref f)) {dvs : List V} {kws : List (Str × V)} (Fn : L2.FunD K x x (defArgs st) (defBody st) (defScope st) dvs kws f fd) (bd : Binds K fd ps []) (S : FnScope F.N ps (defScope st)) (C : CallsL P w K mg base k F.calls c.fs) (hg : GlobL ⟨K, w⟩ mg F.gs c.gs)
    (hx : XOkF ⟨P, w, K, mg, base, F.N⟩ k F.ex) (hl : ts.length + 1 = ps.length) (hb : okDefM F p τ ts b st = true) (blt : ∀ x ∈ blts, mg x = none) (hled : ∀ (j : Nat) (ts : List Ty) (t : Ty), F.led = some (j, ts, t) → ∃ fn, c.fs[j]? = some fn ∧ LedOk ⟨P, w, K, mg, base, F.N⟩ k ts t fn := by exact fun _ _ _ e => nomatch e) (hms : CallsM P w K mg base k F.ms c.ms := by exact .nil) : DefOkM P w K mg base (k + 1) x p τ ts (runM c b F.N.length p) :=
  ⟨f, fd, ps, hm, Fn.kp, bd, defM_ok Fn S (C.ok hg rfl hx blt hled hms) hl hb blt⟩
/-! ## the law's own promise -/
def lawSp (K : PySem.W.Frag) : Sp := fun vs H Q _ => ∃ (a : Addr) (ns : List Int), vs = [.ref a] ∧ SqL K H a (ns.map V.int) ∧ ns.length ≤ 63 ∧ (∀ z ∈ ns, Builtin.Int.intBits z ≤ 1048576) ∧ ∀ H', Q (.bl true) H'
end En

set_option Elab.async false
set_option linter.all false
set_option autoImplicit false
set_option maxRecDepth 100000
set_option maxHeartbeats 1000000
namespace En
open PySem PySem.Spec PyProof.Rows L2 RZ
/-! ## a def that is handed an exception -/
/-- whether an except clause takes a class -/
theorem exm_mk {K : PySem.W.Frag} {C D : Addr} {b : Bool} (h1 : PySem.W.subIn K (.ref D) (.type "BaseException") = some true) (h2 : PySem.W.isClsIn K D = true) (h3 : PySem.W.typeIn K (.ref D) = some (.type "type")) (h4 : PySem.W.subIn K (.ref C) (.ref D) = some b) : PySem.W.exmOne K (.ref C) (.ref D) = some b := by
  have hc : (PySem.W.clsIn K D).isSome = true := h2
  have q1 : (PySem.W.subIn K (.ref D) (.type "BaseException") == some true) = true := by rw [h1]; rfl
  have q2 : ((PySem.W.clsIn K D).isSome && PySem.W.typeIn K (.ref D) == some (.type "type")) = true := by rw [hc, h3]; rfl
  exact (if_pos q1).trans ((if_pos q2).trans h4)
def okX (ex : XT) (N : List Str) (l : Bool) (fb : XB) (st : Stmt) : Bool := decide (ckXB ⟨N, [], [], ex, none, []⟩ (defScope st) 0 (xTy l) fb (List.replicate N.length none) (defBody st) = some none)
theorem se_none {F : Fx} {H : Hp} {z : Addr → Prop} : ∀ (n : Nat) (σ : L2.St), σ.length = n → SE F H z (List.replicate n none) (List.replicate n .none) σ fun _ => 0
  | 0, [], _ => .nil fun _ => rfl
  | 0, _ :: _, h => by cases h
  | n + 1, [], h => by cases h
  | n + 1, x :: σ, h => .no (se_none n σ (by simpa using h))
def clsBd : Stmt → List Stmt
  | .ClassDef (body := b) .. => b
  | _ => []
theorem xfn_ok {P : Program} {w : World} {K : PySem.W.Frag} {mg : Str → Option Value} {base : Heap} {x y : Str} {st : Stmt} {f : Addr} {fd : FuncData} {N : List Str} {k : Nat} {ex : XT} {l : Bool} {fb : XB} (Fn : L2.Fun K x x st f fd) (S : FnScope N [y] (defScope st)) (hx : ∀ N, XOkF ⟨P, w, K, mg, base, N⟩ k ex) (hb : okX ex N l fb st = true) (blt : ∀ x ∈ blts, mg x = none) :
    FnP P w K mg base (k + 1) f fd [y] (spX ⟨P, w, K, mg, base, []⟩ ex.cls (xTy l) fun x => xrun x fb (List.replicate N.length .none)) := by
  obtain ⟨⟨oc, od, kV, doc, pm, an, cdv, ct, osl, e, lk, c⟩, kp⟩ := Fn
  subst e
  have hb := of_decide_eq_true hb
  refine FnP.mk' lk c S fun A outer s H Q p room hsp => ?_
  obtain ⟨e, C, d, z, hc, hZ, hf, xr, hz, v0, ey, hq⟩ := hsp
  obtain ⟨C', eC, T⟩ := (hx N).own _ hc
  have e1 : mg e.cls = some (.ref C) := xr.1
  have e2 : mg e.cls = some (.ref C') := eC
  rw [e1] at e2
  cases e2
  obtain ⟨t, ht, wy1, wy2⟩ := ckXB_ok (I := ⟨p, C, d, e, 0⟩) (G := ⟨P, w, K, mg, base, N⟩) (F := ⟨N, [], [], ex, none, []⟩) (hx N) rfl (blt _ (by decide)) T xr.1 hc hZ hf fb _ _ none hb
  have hp : N.take 1 = [y] := S.pre
  have hn : 1 ≤ N.length := by
    cases N with
    | nil => cases hp
    | cons _ _ => simp
  refine ⟨t, ht _ ⟨rfl, rfl, room, blt, S.nd, fun _ => rfl, ⟨List.mem_singleton.2 rfl, hZ, hf⟩⟩, ?_⟩
  have es : start N [V.ref p.1] = [some (V.ref p.1)] ++ List.replicate (N.length - 1) none := rfl
  have ok : Ok H z fun _ => 0 := fun a => ⟨Nat.zero_le _, fun e => absurd (show (0 : Nat) = 1 from e) (by decide), hz a⟩
  refine wy1 [] (fun _ e => by cases e) (List.replicate N.length .none) _ H z (fun _ => 0) (se_none _ _ (by rw [es]; simp; omega)) ok ⟨by rw [es]; rfl, xr⟩ _ ?_
  rw [show xrun e fb (List.replicate N.length .none) = .rt v0 from ey]
  exact fun v H' z' mv rp st => hq v H' z' mv rp st
end En

set_option Elab.async false
set_option linter.all false
set_option autoImplicit false
set_option maxRecDepth 100000
set_option maxHeartbeats 1000000
namespace En
open PySem PySem.Spec PyProof.Rows L2 RZ
/-! ## a def of a class: its first parameter is the object -/
def spS (G : Gx) (ts : List Ty) (τ : Ty) (fn : Fun) : Sp := fun vs H Q E => ∃ (v0 : V) (us : List V), vs = v0 :: us ∧ spOf G ts τ fn us H Q E
def envS (ts : List Ty) (n : Nat) : TyEnv := none :: (ts.map some ++ List.replicate (n - 1 - ts.length) none)
def runS (c : Cg) (b : B) (n : Nat) : Fun := fun ds => runB c b n (.none :: ds)
def okDefS (F : FI) (ts : List Ty) (τ : Ty) (b : B) (st : Stmt) : Bool := (ckB F τ b (defScope st) [] (envS ts F.N.length) (defBody st)).isSome && decide (ts.length + 1 ≤ F.N.length)
section
variable {P : Program} {w : World} {K : PySem.W.Frag} {mg : Str → Option Value} {base : Heap} {x qual : Str} {st : Stmt} {f : Addr} {fd : FuncData} {N ps : List Str} {k : Nat} {F : FI} {c : Cg} {ts : List Ty} {τ : Ty} {b : B}
theorem envS_se {G : Gx} {H : Hp} {z : Addr → Prop} {ds : List D} {us : List V} {v0 : V} (ra : RA G.F H z ts ds us fun _ => 0) (n : Nat) (hn : ts.length + 1 ≤ n) :
    SE G.F H z (envS ts n) (.none :: ds ++ List.replicate (n - (ds.length + 1)) PyData.none) ((v0 :: us).map some ++ List.replicate (n - (us.length + 1)) none) fun _ => 0 := by
  obtain ⟨l1, l2⟩ := ra.length
  have := ra.se (n - 1 - ts.length)
  have e1 : n - (ds.length + 1) = n - 1 - ts.length := by omega
  have e2 : n - (us.length + 1) = n - 1 - ts.length := by omega
  rw [e1, e2]
  exact .no this
theorem defS_ok {dvs : List V} {kws : List (Str × V)} (Fn : L2.FunD K x qual (defArgs st) (defBody st) (defScope st) dvs kws f fd) (S : FnScope N ps (defScope st)) (C : CallsOk ⟨P, w, K, mg, base, N⟩ k F c) (hl : ts.length + 1 = ps.length) (hb : okDefS F ts τ b st = true) (blt : ∀ x ∈ blts, mg x = none) :
    FnOk P w K mg base (L2.CX P w) (k + 1) f fd ps (spS ⟨P, w, K, mg, base, N⟩ ts τ (runS c b N.length)) := by
  have hN : F.N = N := C.N
  unfold okDefS at hb
  rw [Bool.and_eq_true] at hb
  obtain ⟨hb, hlen⟩ := hb
  have hlen : ts.length + 1 ≤ N.length := by rw [← hN]; exact of_decide_eq_true hlen
  rw [hN] at hb
  obtain ⟨r, er⟩ := Option.isSome_iff_exists.mp hb
  refine L2.FunD.ok Fn S (fun vs H Q E h => ?_) fun cdv A outer s H vs Q E hr h => ?_
  · obtain ⟨v0, us, rfl, ds, z, ra, _⟩ := h
    rw [List.length_cons, ← ra.length.1, hl]
  · obtain ⟨v0, us, rfl, ds, z, ra, hz, hp⟩ := h
    obtain ⟨t, ht, wy, _⟩ := ckB_ok C b _ _ _ _ _ r (fun cls d _ H => E cls d H) er
    refine ⟨t, ht _ ⟨⟨rfl, rfl, rfl, hr, takes_of rfl rfl rfl rfl, blt, S.nd⟩, fun _ => rfl, passes_of rfl, rfl, rfl⟩, ?_⟩
    have hΓ : ∃ Γ', ∀ Γ1, r = some Γ1 → Γ' = Γ1 := by
      cases r with
      | none => exact ⟨[], fun _ e => by cases e⟩
      | some Γ1 => exact ⟨Γ1, fun _ e => by cases e; rfl⟩
    obtain ⟨Γ', hΓ⟩ := hΓ
    have se := envS_se (G := ⟨P, w, K, mg, base, N⟩) (v0 := v0) ra N.length hlen
    have ok : Ok H z fun _ => 0 := fun a => ⟨Nat.zero_le _, fun e => absurd (show (0 : Nat) = 1 from e) (by decide), hz a⟩
    have eσ : start N (v0 :: us) = (v0 :: us).map some ++ List.replicate (N.length - (us.length + 1)) none := rfl
    rw [eσ]
    refine wy.1 Γ' hΓ (.none :: ds ++ List.replicate (N.length - (ds.length + 1)) PyData.none) _ H z (fun _ => 0) se ok _ ?_
    unfold runS runB at hp
    rw [List.length_cons] at hp
    cases e : execB c b (.none :: ds ++ List.replicate (N.length - (ds.length + 1)) PyData.none) with
    | nx ρ' =>
      rw [e] at hp
      intro σ' H' z' m' se' st'
      exact hp .non H' z' (fun _ => 0) (Rp.atom rfl) (st'.drop fun _ => Nat.zero_le _)
    | rt d =>
      rw [e] at hp
      exact fun v H' z' mv rp st' => hp v H' z' mv rp st'
    | bk ρ' => rw [e] at hp; exact hp.elim
    | ex x =>
      rw [e] at hp
      exact fun c dx σ' H' xr kp => hp c dx H' xr fun a o q => kp a o q rfl
    | bad => rw [e] at hp; exact hp.elim
end
def flR : Fl → Res D
  | .nx _ => .ok .none
  | .rt d => .ok d
  | .ex x => .ex x
  | _ => .bad
theorem runB_flR (c : Cg) (b : B) (n : Nat) (ds : List D) : runB c b n ds = flR (execB c b (ds ++ List.replicate (n - ds.length) .none)) := by
  unfold runB
  cases execB c b (ds ++ List.replicate (n - ds.length) .none) <;> rfl
/-! ## led: unit_of, then the object's own onward, then the rest -/
def ledB (jo i1 i2 : Nat) (e1 a1 a2 : E) (rest : B) : B := .cons (.set (.s i1) e1) (.cons (.set (.s i2) (.call jo (.cons a1 (.cons a2 .nil)) [])) rest)
def okLed (F : FI) (i1 i2 : Nat) (e1 a1 a2 : E) (rest : B) (st : Stmt) : Bool :=
  match defBody st with
  | .Assign [tg1] x1 _ :: .Assign [tg2] (.Call (.Attribute (.Name y yp) m apos) (u1 :: us) [] cpos) _ :: ss =>
    match ckE F e1 (defScope st) (envS [.I, .I] F.N.length) x1 with
    | some (.I, Γ0) => match ckEs F (.cons a1 (.cons a2 .nil)) (defScope st) (Γ0.set i1 (some .I)) (u1 :: us) with
      | some ([.I, .I], Γ1) => decide (Γ0 = envS [.I, .I] F.N.length) && decide (Γ1 = Γ0.set i1 (some .I)) && setB F.N (defScope st) (.s i1) tg1 x1 && setB F.N (defScope st) (.s i2) tg2 (.Call (.Attribute (.Name y yp) m apos) (u1 :: us) [] cpos) &&
          decide (i1 < F.N.length) && decide (i2 < F.N.length) && decide (0 < i1) && decide (0 < i2) && slotB F.N (defScope st) 0 y && decide (m = "onward") && (apos.endLine == cpos.line) && decide (us.length ≤ 5) && decide (3 ≤ F.N.length) &&
          (ckB F .I rest (defScope st) [] (Γ1.set i2 (some .I)) ss).isSome
      | _ => false
    | _ => false
  | _ => false
theorem meth_ht {X : Cx} {o x : Expr} {xs : List Expr} {ts : List TE} {pos apos : Pos} {m : Str} (hb : attributeBase o m X.env (eval o X.env) = eval o X.env) (ea : PEs X (x :: xs) ts) (hn : xs.length ≤ 5) (hl : (apos.endLine == pos.line) = true) :
    eval (.Call (.Attribute o m apos) (x :: xs) [] pos) X.env = (do
      let ov ← eval o X.env
      standAt apos.atName
      let (f, first) ← holding [ov] (getMethod ov m (plainOf o X.env))
      callWith pos f first (backTo pos (starEach (x :: xs) X.env)) (backToKw pos (keywordEach [] X.env))) := by
  have hf : methodCallForm ((x :: xs).length + ([] : List Keyword).length) (backTo pos (starEach (x :: xs) X.env)) (backToKw pos (keywordEach [] X.env)) = true := by
    unfold methodCallForm
    rw [noStar_plain ea]
    have : (decide ((x :: xs).length + ([] : List Keyword).length + 0 < 30)) = true := by
      rw [decide_eq_true_eq, List.length_cons]
      show xs.length + 1 + 0 + 0 < 30
      omega
    exact this
  have e0 : eval (.Call (.Attribute o m apos) (x :: xs) [] pos) X.env = (do
      let ov ← attributeBase o m X.env (eval o X.env)
      standAt apos.atName
      methodCall o m apos pos X.env ov ((x :: xs).length + ([] : List Keyword).length) (backTo pos (starEach (x :: xs) X.env)) (backToKw pos (keywordEach [] X.env))) := rfl
  rw [e0, hb]
  congr 1
  funext ov
  rw [mcall_line hf hl]
theorem led_ok {P : Program} {w : World} {K : PySem.W.Frag} {mg : Str → Option Value} {base : Heap} {x qual : Str} {st : Stmt} {f : Addr} {fd : FuncData} {N ps : List Str} {k jo i1 i2 : Nat} {F : FI} {cg : Int → Cg} {cl : Int → Addr} {fon : Int → Fun} {e1 a1 a2 : E} {rest : B}
    {dvs : List V} {kws : List (Str × V)} (Fn : L2.FunD K x qual (defArgs st) (defBody st) (defScope st) dvs kws f fd) (S : FnScope N ps (defScope st)) (C : ∀ i, bendI i → CallsOk ⟨P, w, K, mg, base, N⟩ k F (cg i)) (hl : ps.length = 3)
    (hcl : ∀ i, bendI i → Cls K (cl i)) (hon : ∀ i, bendI i → ∃ (fo : Addr) (fdo : FuncData) (pso : List Str) (ko : Nat), Meth K (cl i) "onward" fo ∧ ko ≤ k ∧ FnOk P w K mg base (L2.CX P w) ko fo fdo pso (spS ⟨P, w, K, mg, base, N⟩ [.I, .I] .I (fon i)) ∧ Binds K fdo pso [] ∧ (cg i).fs[jo]? = some (fon i))
    (hb : okLed F i1 i2 e1 a1 a2 rest st = true) (blt : ∀ x ∈ blts, mg x = none) :
    FnOk P w K mg base (L2.CX P w) (k + 1) f fd ps (spL ⟨P, w, K, mg, base, N⟩ cl [.I, .I] .I fun i => runS (cg i) (ledB jo i1 i2 e1 a1 a2 rest) N.length) := by
  have hN : F.N = N := (C 0 (.inr (.inl rfl))).N
  unfold okLed at hb
  split at hb
  · rename_i tg1 x1 p1 tg2 y yp m apos u1 us cpos p2 ss ebody
    split at hb
    · rename_i Γ0 ck1
      split at hb
      · rename_i Γ1 ck2
        simp only [Bool.and_eq_true, decide_eq_true_eq] at hb
        obtain ⟨⟨⟨⟨⟨⟨⟨⟨⟨⟨⟨⟨⟨rfl, rfl⟩, s1⟩, s2⟩, l1⟩, l2⟩, z1⟩, z2⟩, hy⟩, rfl⟩, hln⟩, hus⟩, h3⟩, hck⟩ := hb
        obtain ⟨r, er⟩ := Option.isSome_iff_exists.mp hck
        refine L2.FunD.ok Fn S (fun vs H Q E h => ?_) fun cdv A outer s H vs Q E hr h => ?_
        · obtain ⟨i, a, dx, vs', hi, rfl, ha, ds, z, ra, _⟩ := h
          have := ra.length.1
          simp only [List.length_cons, List.length_nil] at this ⊢
          omega
        · obtain ⟨i, a, dx, vs', hi, rfl, ha, ds, z, ra, hz, hp⟩ := h
          have Ci := C i hi
          obtain ⟨fo, fdo, pso, ko, mo, lo, Fo, bo, eo⟩ := hon i hi
          obtain ⟨⟨te1, p1', ev1⟩, _⟩ := ckE_ok Ci e1 _ _ _ x1 _ (fun cls d _ H => E cls d H) ck1
          obtain ⟨tss, pp2, ev2⟩ := ckEs_ok Ci (.cons a1 (.cons a2 .nil)) _ _ _ _ _ (fun cls d _ H => E cls d H) ck2
          obtain ⟨tb, ptb, wy, _⟩ := ckB_ok Ci rest _ _ _ _ _ r (fun cls d _ H => E cls d H) er
          rw [ebody]
          have good : GoodS ⟨P, w, K, mg, base, N⟩ k (fun cls d _ H => E cls d H) (defScope st) (cxOf (L2.CX P w) P w K mg base N qual (defScope st) f cdv A outer s H E) := ⟨⟨rfl, rfl, rfl, hr, takes_of rfl rfl rfl rfl, blt, S.nd⟩, fun _ => rfl, passes_of rfl, rfl, rfl⟩
          have hx : Passes (L2.CX P w) (cxOf (L2.CX P w) P w K mg base N qual (defScope st) f cdv A outer s H E) E := fun pins σ H s e s' I c => passAt good.tk σ pins H s e s' I c
          have ps1 := set_ps (pos := p1) good hN s1 (p1' _ good.toGood)
          have pself : PE (cxOf (L2.CX P w) P w K mg base N qual (defScope st) f cdv A outer s H E) (.Name y yp) (tVar 0) := (var_pe Ci hy _ good.toGood)
          have hpes := pp2 _ good.toGood
          have hht := meth_ht (o := .Name y yp) (m := "onward") (apos := apos) (pos := cpos) rfl hpes hus hln
          have pm : PE (cxOf (L2.CX P w) P w K mg base N qual (defScope st) f cdv A outer s H E) (.Call (.Attribute (.Name y yp) "onward" apos) (u1 :: us) [] cpos) (tMeth (cl i) "onward" (spS ⟨P, w, K, mg, base, N⟩ [.I, .I] .I (fon i)) [] E (tVar 0) (tL tss)) := by
            cases hpes with
            | cons q1 q2 q3 => exact pe_meth (m := "onward") (apos := apos) (pos := cpos) pself (hcl i hi) mo Fo (good.room.mono lo) bo .nil hx (PEs.cons q1 q2 q3).pa (star_of q1 _ _) q3.plain hht
          have ps2 := set_ps (pos := p2) good hN s2 (pm.pex rfl)
          refine ⟨_, pss_cons ps1 (pss_cons ps2 (ptb _ good)), ?_⟩
          have hΓ : ∃ Γ', ∀ Γ1, r = some Γ1 → Γ' = Γ1 := by
            cases r with
            | none => exact ⟨[], fun _ e => by cases e⟩
            | some Γ1 => exact ⟨Γ1, fun _ e => by cases e; rfl⟩
          obtain ⟨Γ', hΓ⟩ := hΓ
          have hlen : ([Ty.I, Ty.I] : List Ty).length + 1 ≤ N.length := by rw [← hN]; exact h3
          have se := envS_se (G := ⟨P, w, K, mg, base, N⟩) (v0 := .ref a) ra N.length hlen
          have ok : Ok H z fun _ => 0 := fun a => ⟨Nat.zero_le _, fun e => absurd (show (0 : Nat) = 1 from e) (by decide), hz a⟩
          have eσ : start N (.ref a :: vs') = (V.ref a :: vs').map some ++ List.replicate (N.length - (vs'.length + 1)) none := rfl
          unfold runS at hp
          dsimp only at hp
          rw [runB_flR, List.length_cons] at hp
          rw [eσ]
          generalize eρ : (PyData.none :: ds ++ List.replicate (N.length - (ds.length + 1)) PyData.none) = ρ0 at se hp
          have hσ0 : ((V.ref a :: vs').map some ++ List.replicate (N.length - (vs'.length + 1)) none)[0]? = some (some (.ref a)) := rfl
          generalize ((V.ref a :: vs').map some ++ List.replicate (N.length - (vs'.length + 1)) none) = σ0 at se hσ0 ⊢
          rw [← hN] at se
          have ex1 : execB (cg i) (ledB jo i1 i2 e1 a1 a2 rest) ρ0 = ((ev (cg i) e1 ρ0).fl fun d => .nx (ρ0.set i1 d)).then fun ρ => (((evs (cg i) (.cons a1 (.cons a2 .nil)) ρ).bind fun ds => fon i ds).fl fun d => .nx (ρ.set i2 d)).then (execB (cg i) rest) := by
            have e2 : ∀ ρ, exec (cg i) (.set (.s i2) (.call jo (.cons a1 (.cons a2 .nil)) [])) ρ = ((evs (cg i) (.cons a1 (.cons a2 .nil)) ρ).bind fun ds => fon i ds).fl fun d => .nx (ρ.set i2 d) := fun ρ => by
              show (((evs (cg i) (.cons a1 (.cons a2 .nil)) ρ).bind fun ds => callD (cg i).fs jo (ds ++ ([] : List Kt).map Kt.d))).fl _ = _
              have : ∀ ds, callD (cg i).fs jo (ds ++ ([] : List Kt).map Kt.d) = fon i ds := fun ds => by
                unfold callD
                rw [eo, List.map_nil, List.append_nil]
              simp only [this]
              rfl
            show ((exec (cg i) (.set (.s i1) e1) ρ0).then fun ρ => (exec (cg i) (.set (.s i2) (.call jo (.cons a1 (.cons a2 .nil)) [])) ρ).then (execB (cg i) rest)) = _
            simp only [e2]
            rfl
          rw [ex1] at hp
          refine ev1 ρ0 σ0 H z (fun _ => 0) se ok _ ?_
          cases h1 : ev (cg i) e1 ρ0 with
          | bad => rw [h1] at hp; exact hp.elim
          | ex xx =>
            rw [h1] at hp
            exact fun c dx H' xr e => hp c dx H' xr e
          | ok d1 =>
            rw [h1] at hp
            intro v1 H1 z1 m1 mv1 se1 r1 st1 exA
            obtain ⟨m2, se2, hm2⟩ := SE.put i1 se1 (by rw [show (envS [.I, .I] F.N.length).length = F.N.length by simp [envS]; omega]; exact l1) r1
            have st2 : Stp H z (fun _ => 0) H1 z1 (fun b => mv1 b + m2 b) := st1.drop fun b => by have := hm2 b; omega
            have hσ1 : (σ0.set i1 (some v1))[0]? = some (some (.ref a)) := by
              rw [List.getElem?_set_ne (by omega)]
              exact hσ0
            refine ⟨.ref a, hσ1, a, dx, [], rfl, exA _ _ ha, rfl, ?_⟩
            rw [Res.fl_ok, Fl.then_nx] at hp
            refine ev2 (ρ0.set i1 d1) (σ0.set i1 (some v1)) H1 z1 _ se2 st2.ok _ ?_
            cases h2 : evs (cg i) (.cons a1 (.cons a2 .nil)) (ρ0.set i1 d1) with
            | bad => rw [h2] at hp; exact hp.elim
            | ex xx =>
              rw [h2] at hp
              exact fun c dx H' xr e => hp c dx H' xr (exA.trans e)
            | ok d2s =>
              rw [h2] at hp
              intro vs2 H2 z2 m3 mv3 se3 r3 st3 exB
              have st4 : Stp H z (fun _ => 0) H2 z2 m3 := (st2.trans st3).drop fun b => Nat.le_add_right _ _
              rw [Res.bind_ok] at hp
              refine ⟨.ref a, vs2, by rw [List.append_nil], spOf_use r3 (by decide) rfl st4 _ _ ?_⟩
              cases h3 : fon i d2s with
              | bad => rw [h3] at hp; exact hp.elim
              | ex xx =>
                rw [h3] at hp
                exact fun c dx H' xr e => hp c dx H' xr ((exA.trans exB).trans e)
              | ok d3 =>
                rw [h3, Res.fl_ok, Fl.then_nx] at hp
                intro v3 H3 z3 m4 hz3 rp3 st5 exC
                obtain ⟨m5, se5, hm5⟩ := SE.put i2 (se3.ext exC hz3) (by rw [List.length_set, show (envS [.I, .I] F.N.length).length = F.N.length by simp [envS]; omega]; exact l2) rp3
                have st6 : Stp H z (fun _ => 0) H3 z3 (fun b => m4 b + m5 b) := st5.drop fun b => by have := hm5 b; omega
                refine wy.1 Γ' hΓ ((ρ0.set i1 d1).set i2 d3) ((σ0.set i1 (some v1)).set i2 (some v3)) H3 z3 _ se5 st6.ok _ ?_
                cases h4 : execB (cg i) rest ((ρ0.set i1 d1).set i2 d3) with
                | nx ρ' =>
                  rw [h4] at hp
                  intro σ' H' z' m' se' st'
                  exact hp .non H' z' (fun _ => 0) (Rp.atom rfl) ((st6.trans st').drop fun _ => Nat.zero_le _)
                | rt d =>
                  rw [h4] at hp
                  exact fun v H' z' mv rp st' => hp v H' z' mv rp (st6.trans st')
                | bk ρ' => rw [h4] at hp; exact hp.elim
                | ex xx =>
                  rw [h4] at hp
                  refine fun c dx σ' H' xr kp => hp c dx H' xr fun a o q => kp a o (((exA.trans exB).trans exC) a o q) ?_
                  exact Nat.le_zero.1 (st6.dec a (by rw [q]; simp)).1
                | bad => rw [h4] at hp; exact hp.elim
      · cases hb
    · cases hb
  · cases hb
/-! ## join_of -/
def eJ1 : E := .or (.not (.op (.isK .int) (.cons (.v 0) .nil))) (.or (.op (.isK .bool) (.cons (.v 0) .nil)) (.op (.inn true) (.cons (.v 0) (.cons (.tup (.cons (.op .neg (.cons (.k (.int 1)) .nil)) (.cons (.k (.int 0)) (.cons (.k (.int 1)) .nil)))) .nil))))
def eJ2 : E := .op .eq (.cons (.v 0) (.cons (.k (.int 1)) .nil))
def eJ3 : E := .op .eq (.cons (.v 0) (.cons (.op .neg (.cons (.k (.int 1)) .nil)) .nil))
def fiJ : FI := ⟨["bend"], [], [], XT.none, none, []⟩
def okJoin (st : Stmt) : Bool :=
  match defBody st with
  | [.If u1 _ [] _, .If u2 [.Return (some (.Call (.Name n2 _) [] [] _)) _] [] _, .If u3 [.Return (some (.Call (.Name n3 _) [] [] _)) _] [] _, .Return (some (.Call (.Name n4 _) [] [] _)) _] =>
    decide (ckE fiJ eJ1 (defScope st) [some .I] u1 = some (.I, [some .I])) && decide (ckE fiJ eJ2 (defScope st) [some .I] u2 = some (.I, [some .I])) && decide (ckE fiJ eJ3 (defScope st) [some .I] u3 = some (.I, [some .I])) &&
      noIf u1 && noIf u2 && noIf u3 && decide (n2 = "Up") && decide (n3 = "Down") && decide (n4 = "Join") && glB (defScope st) "Up" && glB (defScope st) "Down" && glB (defScope st) "Join"
  | _ => false
theorem join_ok {P : Program} {w : World} {K : PySem.W.Frag} {mg : Str → Option Value} {base : Heap} {x qual : Str} {st : Stmt} {f : Addr} {fd : FuncData} {k : Nat} {cl : Int → Addr}
    {dvs : List V} {kws : List (Str × V)} (Fn : L2.FunD K x qual (defArgs st) (defBody st) (defScope st) dvs kws f fd) (S : FnScope ["bend"] ["bend"] (defScope st))
    (hU : mg "Up" = some (.ref (cl 1))) (hD : mg "Down" = some (.ref (cl (-1)))) (hJ : mg "Join" = some (.ref (cl 0))) (hb : ∀ i, bendI i → Bare K (cl i))
    (ok : okJoin st = true) (blt : ∀ x ∈ blts, mg x = none) : FnOk P w K mg base (L2.CX P w) (k + 1) f fd ["bend"] (spJ cl) := by
  have C : CallsOk ⟨P, w, K, mg, base, ["bend"]⟩ k fiJ ⟨[], [], []⟩ := CallsL.ok .nil .nil rfl XOkF.none blt (fun _ _ _ e => nomatch e) .nil
  unfold okJoin at ok
  split at ok
  · rename_i u1 r1 p1 u2 n2 q2 q2' q2'' p2 u3 n3 q3 q3' q3'' p3 n4 q4 q4' q4'' ebody
    simp only [Bool.and_eq_true, decide_eq_true_eq] at ok
    obtain ⟨⟨⟨⟨⟨⟨⟨⟨⟨⟨⟨k1, k2⟩, k3⟩, m1⟩, m2⟩, m3⟩, rfl⟩, rfl⟩, rfl⟩, g2⟩, g3⟩, g4⟩ := ok
    refine L2.FunD.ok Fn S (fun vs H Q E h => ?_) fun cdv A outer s H vs Q E hr h => ?_
    · obtain ⟨i, rfl, _⟩ := h
      rfl
    · obtain ⟨i, rfl, hi, q⟩ := h
      rw [ebody]
      have good : GoodS ⟨P, w, K, mg, base, ["bend"]⟩ k (fun cls d _ H => E cls d H) (defScope st) (cxOf (L2.CX P w) P w K mg base ["bend"] qual (defScope st) f cdv A outer s H E) := ⟨⟨rfl, rfl, rfl, hr, takes_of rfl rfl rfl rfl, blt, S.nd⟩, fun _ => rfl, passes_of rfl, rfl, rfl⟩
      obtain ⟨tt1, pt1, ev1⟩ := (ckE_ok C eJ1 _ _ _ u1 _ (fun cls d _ H => E cls d H) k1).2 m1 rfl
      obtain ⟨tt2, pt2, ev2⟩ := (ckE_ok C eJ2 _ _ _ u2 _ (fun cls d _ H => E cls d H) k2).2 m2 rfl
      obtain ⟨tt3, pt3, ev3⟩ := (ckE_ok C eJ3 _ _ _ u3 _ (fun cls d _ H => E cls d H) k3).2 m3 rfl
      have bU := pe_bare0 (X := cxOf (L2.CX P w) P w K mg base ["bend"] qual (defScope st) f cdv A outer s H E) (p := q2) (pos := q2') (hb 1 (by decide)) (good.toGood.gl g2) hU (by decide)
      have bD := pe_bare0 (X := cxOf (L2.CX P w) P w K mg base ["bend"] qual (defScope st) f cdv A outer s H E) (p := q3) (pos := q3') (hb (-1) (by decide)) (good.toGood.gl g3) hD (by decide)
      have bJ := pe_bare0 (X := cxOf (L2.CX P w) P w K mg base ["bend"] qual (defScope st) f cdv A outer s H E) (p := q4) (pos := q4') (hb 0 (by decide)) (good.toGood.gl g4) hJ (by decide)
      refine ⟨_, pss_cons (ps_if (t := fun _ _ _ => False) (pt1 _ good.toGood).1 ⟨fun _ _ _ _ _ _ h => h.elim⟩ pss_nil) (pss_cons (ps_if (pt2 _ good.toGood).1 (pss_cons (ps_ret (pos := q2'') bU) pss_nil) pss_nil) (pss_cons (ps_if (pt3 _ good.toGood).1 (pss_cons (ps_ret (pos := q3'') bD) pss_nil) pss_nil) (pss_cons (ps_ret (pos := q4'') bJ) pss_nil))), ?_⟩
      have se : SE (Gx.F ⟨P, w, K, mg, base, ["bend"]⟩) H (fun _ => False) [some .I] [.int i] [some (.int i)] (fun _ => 0) := .yes (m1 := fun _ => 0) (m2 := fun _ => 0) (Rp.atom rfl) (.nil fun _ => rfl) fun _ => rfl
      have okk : Ok H (fun _ => False) fun _ => 0 := fun a => ⟨Nat.zero_le _, fun e => absurd (show (0 : Nat) = 1 from e) (by decide), fun q => q.elim⟩
      have fin : ∀ (j : Int) (H1 : Hp) (Q' : VK), j = i → Ext H H1 → Q' = Q → tBare (cl j) [some (V.int i)] H1 Q' := by
        rintro j H1 Q' rfl e1 rfl a dx na nd ne
        have na' : H a = none := by
          cases hh : H a with
          | none => rfl
          | some o => rw [e1 a o hh] at na; cases na
        refine q a dx _ na' upd_same fun b o hb => ?_
        have hb1 := e1 b o hb
        rw [upd_ne (fun e => by rw [e, na] at hb1; cases hb1), upd_ne (fun e => by rw [e, nd] at hb1; cases hb1)]
        exact hb1
      have v1 : (ev ⟨[], [], []⟩ eJ1 [.int i]).bind toB = .ok false := by rcases hi with rfl | rfl | rfl <;> rfl
      have v2 : (ev ⟨[], [], []⟩ eJ2 [.int i]).bind toB = .ok (decide (i = 1)) := by rcases hi with rfl | rfl | rfl <;> rfl
      have v3 : (ev ⟨[], [], []⟩ eJ3 [.int i]).bind toB = .ok (decide (i = -1)) := by rcases hi with rfl | rfl | rfl <;> rfl
      refine ev1 [.int i] [some (.int i)] H _ _ se okk _ ?_
      show ((ev ⟨[], [], []⟩ eJ1 [.int i]).bind toB).post _ _
      rw [v1]
      intro H1 z1 w1 se1 st1 ex1
      show (if false = true then _ else _)
      rw [if_neg (by decide)]
      refine ev2 [.int i] [some (.int i)] H1 _ _ se1 st1.ok _ ?_
      show ((ev ⟨[], [], []⟩ eJ2 [.int i]).bind toB).post _ _
      rw [v2]
      intro H2 z2 w2 se2 st2 ex2
      by_cases c1 : i = 1
      · show (if decide (i = 1) = true then _ else _)
        rw [if_pos (decide_eq_true c1)]
        exact fin 1 H2 _ c1.symm (ex1.trans ex2) rfl
      · show (if decide (i = 1) = true then _ else _)
        rw [if_neg (by simp [c1])]
        refine ev3 [.int i] [some (.int i)] H2 _ _ se2 st2.ok _ ?_
        show ((ev ⟨[], [], []⟩ eJ3 [.int i]).bind toB).post _ _
        rw [v3]
        intro H3 z3 w3 se3 st3 ex3
        by_cases c2 : i = -1
        · show (if decide (i = -1) = true then _ else _)
          rw [if_pos (decide_eq_true c2)]
          exact fin (-1) H3 _ c2.symm ((ex1.trans ex2).trans ex3) rfl
        · show (if decide (i = -1) = true then _ else _)
          rw [if_neg (by simp [c2])]
          exact fin 0 H3 _ (by rcases hi with h | h | h <;> omega) ((ex1.trans ex2).trans ex3) rfl
  · cases ok
end En

set_option Elab.async false
set_option linter.all false
set_option autoImplicit false
set_option maxRecDepth 100000
namespace En
open PySem
variable {c : Cg} {ρ : Env}
/-! ## what a text computes: equations -/
@[simp] theorem ev_v (i : Nat) : ev c (.v i) ρ = .ok (ρ.getD i .none) := rfl
@[simp] theorem ev_mv (i : Nat) : ev c (.mv i) ρ = .ok (ρ.getD i .none) := rfl
@[simp] theorem ev_k (t : Kt) : ev c (.k t) ρ = .ok t.d := rfl
@[simp] theorem ev_g (j : Nat) : ev c (.g j) ρ = .of c.gs[j]? := rfl
@[simp] theorem ev_tup (es : Es) : ev c (.tup es) ρ = (evs c es ρ).map .tuple := rfl
@[simp] theorem ev_lst (es : Es) : ev c (.lst es) ρ = (evs c es ρ).map .list := rfl
@[simp] theorem ev_dnew : ev c .dnew ρ = .ok (.dict []) := rfl
@[simp] theorem ev_op (o : Op) (es : Es) : ev c (.op o es) ρ = (evs c es ρ).bind fun ds => .of (opv o ds) := rfl
@[simp] theorem ev_call (j : Nat) (es : Es) : ev c (.call j es []) ρ = (evs c es ρ).bind fun ds => callD c.fs j ds := by
  show ((evs c es ρ).bind fun ds => callD c.fs j (ds ++ [])) = _
  simp only [List.append_nil]
@[simp] theorem ev_and (a b : E) : ev c (.and a b) ρ = (ev c a ρ).bind fun d => (toB d).bind fun x => if x then ev c b ρ else .ok (.bool false) := rfl
@[simp] theorem ev_or (a b : E) : ev c (.or a b) ρ = (ev c a ρ).bind fun d => (toB d).bind fun x => if x then .ok (.bool true) else ev c b ρ := rfl
@[simp] theorem ev_not (a : E) : ev c (.not a) ρ = (ev c a ρ).bind fun d => (toB d).bind fun x => .ok (.bool !x) := rfl
@[simp] theorem ev_ite (t a b : E) : ev c (.ite t a b) ρ = ((ev c t ρ).bind toB).bind fun x => if x then ev c a ρ else ev c b ρ := rfl
@[simp] theorem ev_lc (it : It) (tg : Tg) (cond el : E) : ev c (.lc it tg cond el) ρ = (evI c it ρ).bind fun ds => (lcD (fun d => (Res.of (setTg tg d ρ)).bind fun ρ' => ((ev c cond ρ').bind toB).noex.bind fun x => if x then (ev c el ρ').noex.map some else .ok none) ds).map .list := rfl
@[simp] theorem ev_co (t : Ty) (e : E) : ev c (.co t e) ρ = ev c e ρ := rfl
@[simp] theorem ev_imm (e : E) : ev c (.imm e) ρ = (ev c e ρ).bind fun d => if imm d then .ok d else .bad := rfl
@[simp] theorem evs_nil : evs c .nil ρ = .ok [] := rfl
@[simp] theorem evs_cons (e : E) (es : Es) : evs c (.cons e es) ρ = (ev c e ρ).bind fun d => (evs c es ρ).bind fun ds => .ok (d :: ds) := rfl
@[simp] theorem execB_nil : execB c .nil ρ = .nx ρ := rfl
@[simp] theorem execB_cons (s : S) (b : B) : execB c (.cons s b) ρ = (exec c s ρ).then (execB c b) := rfl
@[simp] theorem exec_set (tg : Tg) (e : E) : exec c (.set tg e) ρ = (ev c e ρ).fl fun d => (Res.of (setTg tg d ρ)).fl .nx := rfl
@[simp] theorem exec_ret (e : E) : exec c (.ret e) ρ = (ev c e ρ).fl .rt := rfl
@[simp] theorem exec_expr (e : E) : exec c (.expr e) ρ = (ev c e ρ).fl fun _ => .nx ρ := rfl
@[simp] theorem exec_co (i : Nat) (t : Ty) : exec c (.co i t) ρ = .nx ρ := rfl
@[simp] theorem exec_brk : exec c .brk ρ = .bk ρ := rfl
@[simp] theorem exec_unr : exec c .unr ρ = .bad := rfl
@[simp] theorem exec_ite (t : E) (a b : B) (cl : List Nat) : exec c (.ite t a b cl) ρ = ((ev c t ρ).bind toB).fl fun x => (if x then execB c a ρ else execB c b ρ).then fun ρ => .nx (clear cl ρ) := rfl
@[simp] theorem exec_for (it : It) (tg : Tg) (b : B) (cl : List Nat) : exec c (.for it tg b cl) ρ = (evI c it ρ).fl fun ds => forX (execB c b) tg cl ds (clear cl ρ) := rfl
theorem exec_while (n : Nat) (t : E) (b : B) (cl : List Nat) : exec c (.while n t b cl) ρ = whileX (fun ρ => (ev c t ρ).bind toB) (execB c b) cl n (clear cl ρ) := rfl
@[simp] theorem exec_mu0 (m : Mu) (i : Nat) (es : Es) : exec c (.mu m i .nil es) ρ = if isKd .list (ρ.getD i .none) then (evs c es ρ).fl fun ds => (Res.of (muv m ds (ρ.getD i .none))).fl fun d => .nx (ρ.set i d) else .bad := rfl
@[simp] theorem exec_sub0 (i : Nat) (ix e : E) : exec c (.sub i .nil ix e) ρ = (ev c e ρ).fl fun y => if isKd .list (ρ.getD i .none) then (ev c ix ρ).fl fun k => (Res.of (subv k y (ρ.getD i .none))).fl fun d => .nx (ρ.set i d) else .bad := rfl
@[simp] theorem forX_nil (b : Env → Fl) (tg : Tg) (cl : List Nat) : forX b tg cl [] ρ = .nx ρ := rfl
@[simp] theorem forX_cons (b : Env → Fl) (tg : Tg) (cl : List Nat) (d : D) (ds : List D) : forX b tg cl (d :: ds) ρ = (Res.of (setTg tg d ρ)).fl fun ρ1 => loopK (b ρ1) (forX b tg cl ds) cl := rfl
theorem whileX_succ (t : Env → Res Bool) (b : Env → Fl) (cl : List Nat) (n : Nat) : whileX t b cl (n + 1) ρ = (t ρ).fl fun x => if x then loopK (b ρ) (whileX t b cl n) cl else .nx ρ := rfl
theorem evI_lst (e : E) {xs : List D} (h : ev c e ρ = .ok (.list xs)) : evI c (.lst e) ρ = .ok xs := by
  show ((ev c e ρ).bind fun d => match d with | .list xs => .ok xs | _ => .bad) = _
  rw [h]; rfl
theorem evI_tup (e : E) {xs : List D} (h : ev c e ρ = .ok (.tuple xs)) : evI c (.tup e) ρ = .ok xs := by
  show ((ev c e ρ).bind fun d => match d with | .tuple xs => .ok xs | _ => .bad) = _
  rw [h]; rfl
/-- a loop that goes through all: A is what it carries -/
theorem forX_fold {A : Type} (step : A → D → A) (env : A → Env) {b : Env → Fl} {tg : Tg} {cl : List Nat} : ∀ (ds : List D) (a : A), (∀ a d, d ∈ ds → ∃ ρ1 ρ2, setTg tg d (env a) = some ρ1 ∧ b ρ1 = .nx ρ2 ∧ clear cl ρ2 = env (step a d)) →
    forX b tg cl ds (env a) = .nx (env (ds.foldl step a))
  | [], a, _ => rfl
  | d :: ds, a, h => by
    obtain ⟨ρ1, ρ2, h1, h2, h3⟩ := h a d List.mem_cons_self
    rw [forX_cons, h1, Res.of_some, Res.fl_ok, h2, loopK_nx, h3]
    exact forX_fold step env ds (step a d) fun a d hd => h a d (List.mem_cons_of_mem _ hd)
/-- a loop that tests each: it goes on, its slots unchanged, or gives r -/
theorem forX_all {P : D → Bool} {r : D} {env : Env} {b : Env → Fl} {tg : Tg} {cl : List Nat} : ∀ (ds : List D), (∀ d, d ∈ ds → ∃ ρ1, setTg tg d env = some ρ1 ∧ if P d then ∃ ρ2, b ρ1 = .nx ρ2 ∧ clear cl ρ2 = env else b ρ1 = .rt r) →
    forX b tg cl ds env = if ds.all P then .nx env else .rt r
  | [], _ => rfl
  | d :: ds, h => by
    obtain ⟨ρ1, h1, h2⟩ := h d List.mem_cons_self
    rw [forX_cons, h1, Res.of_some, Res.fl_ok, List.all_cons]
    cases hp : P d with
    | true =>
      rw [hp, if_pos rfl] at h2
      obtain ⟨ρ2, h2, h3⟩ := h2
      rw [h2, loopK_nx, h3, Bool.true_and]
      exact forX_all ds fun d hd => h d (List.mem_cons_of_mem _ hd)
    | false =>
      rw [hp] at h2
      rw [show b ρ1 = .rt r from h2]
      rfl
theorem lcD_map {f : D → Res (Option D)} {g : D → D} : ∀ (ds : List D), (∀ d, d ∈ ds → f d = .ok (some (g d))) → lcD f ds = .ok (ds.map g)
  | [], _ => rfl
  | d :: ds, h => by
    show (f d).bind (fun o => (lcD f ds).bind fun r => .ok (match o with | some y => y :: r | none => r)) = _
    rw [h d List.mem_cons_self, lcD_map ds fun d hd => h d (List.mem_cons_of_mem _ hd)]
    rfl
theorem lcD_filter {f : D → Res (Option D)} {p : D → Bool} {g : D → D} : ∀ (ds : List D), (∀ d, d ∈ ds → f d = .ok (if p d then some (g d) else none)) → lcD f ds = .ok ((ds.filter p).map g)
  | [], _ => rfl
  | d :: ds, h => by
    show (f d).bind (fun o => (lcD f ds).bind fun r => .ok (match o with | some y => y :: r | none => r)) = _
    rw [h d List.mem_cons_self, lcD_filter ds fun d hd => h d (List.mem_cons_of_mem _ hd), List.filter_cons]
    cases p d <;> rfl
theorem stepB {s : S} {b : B} {ρ' : Env} {r : Fl} (h : exec c s ρ = .nx ρ') (k : execB c b ρ' = r) : execB c (.cons s b) ρ = r := by
  rw [execB_cons, h]
  exact k
theorem lastB {s : S} {b : B} {d : D} (h : exec c s ρ = .rt d) : execB c (.cons s b) ρ = .rt d := by
  rw [execB_cons, h]
  rfl
theorem runB_of {b : B} {n : Nat} {ds : List D} {d : D} (h : execB c b (ds ++ List.replicate (n - ds.length) .none) = .rt d) : runB c b n ds = .ok d := by
  unfold runB
  rw [h]
/-! ### data alike -/
@[simp] theorem eqv_int (a b : Int) : PyData.eqv (.int a) (.int b) = decide (a = b) := rfl
@[simp] theorem eqv_bool (a b : Bool) : PyData.eqv (.bool a) (.bool b) = (a == b) := rfl
@[simp] theorem kt_int (i : Int) : (Kt.int i).d = .int i := rfl
@[simp] theorem kt_bool (i : Bool) : (Kt.bool i).d = .bool i := rfl
@[simp] theorem kt_str (i : Str) : (Kt.str i).d = .str i := rfl
@[simp] theorem kt_non : Kt.non.d = .none := rfl
@[simp] theorem toB_bool (b : Bool) : toB (.bool b) = .ok b := rfl
@[simp] theorem toI_int (b : Int) : toI (.int b) = .ok b := rfl
@[simp] theorem opv_add (a b : Int) : opv .add [.int a, .int b] = some (.int (a + b)) := rfl
@[simp] theorem opv_sub (a b : Int) : opv .sub [.int a, .int b] = some (.int (a - b)) := rfl
@[simp] theorem opv_neg (a : Int) : opv .neg [.int a] = some (.int (-a)) := rfl
@[simp] theorem opv_mulL {a b : Int} (h : smallI a = true) : opv .mul [.int a, .int b] = some (.int (a * b)) := if_pos (show mulOk a b = true by unfold mulOk; rw [h]; rfl)
@[simp] theorem opv_mulR {a b : Int} (h : smallI b = true) : opv .mul [.int a, .int b] = some (.int (a * b)) := if_pos (show mulOk a b = true by unfold mulOk; rw [h, Bool.or_true]; rfl)
theorem opv_mul {a b : Int} (h : mulOk a b = true) : opv .mul [.int a, .int b] = some (.int (a * b)) := if_pos h
@[simp] theorem opv_fdiv {a b : Int} (h : (decide (0 < b) && decide (b.natAbs.log2 < 9000)) = true) : opv .fdiv [.int a, .int b] = some (.int (a / b)) := if_pos h
@[simp] theorem opv_mod {a b : Int} (h : decide (0 < b) = true) : opv .mod [.int a, .int b] = some (.int (a % b)) := if_pos h
@[simp] theorem opv_pow {a b : Int} (h : (decide (0 ≤ b) && decide (b ≤ 1000000) && decide (a.natAbs < 2 ^ 64)) = true) : opv .pow [.int a, .int b] = some (.int (a ^ b.toNat)) := if_pos h
@[simp] theorem opv_lt (a b : Int) : opv .lt [.int a, .int b] = some (.bool (decide (a < b))) := rfl
@[simp] theorem opv_le (a b : Int) : opv .le [.int a, .int b] = some (.bool (decide (a ≤ b))) := rfl
@[simp] theorem opv_gt (a b : Int) : opv .gt [.int a, .int b] = some (.bool (decide (b < a))) := rfl
@[simp] theorem opv_ge (a b : Int) : opv .ge [.int a, .int b] = some (.bool (decide (b ≤ a))) := rfl
@[simp] theorem opv_eqI (a b : Int) : opv .eq [.int a, .int b] = some (.bool (decide (a = b))) := rfl
@[simp] theorem opv_neI (a b : Int) : opv .ne [.int a, .int b] = some (.bool (!decide (a = b))) := rfl
theorem opv_eq {a b : D} (ha : shp a = true) (hb : shp b = true) : opv .eq [a, b] = some (.bool (PyData.eqv a b)) := if_pos (by rw [ha, hb]; rfl)
theorem opv_ne {a b : D} (ha : shp a = true) (hb : shp b = true) : opv .ne [a, b] = some (.bool (!PyData.eqv a b)) := if_pos (by rw [ha, hb]; rfl)
@[simp] theorem opv_lenL (xs : List D) : opv .len [.list xs] = some (.int xs.length) := rfl
@[simp] theorem opv_lenT (xs : List D) : opv .len [.tuple xs] = some (.int xs.length) := rfl
@[simp] theorem opv_listL (xs : List D) : opv .listL [.list xs] = some (.list xs) := rfl
@[simp] theorem opv_listT (xs : List D) : opv .listT [.tuple xs] = some (.list xs) := rfl
@[simp] theorem opv_tupL (xs : List D) : opv .tupL [.list xs] = some (.tuple xs) := rfl
@[simp] theorem opv_tupT (xs : List D) : opv .tupT [.tuple xs] = some (.tuple xs) := rfl
theorem opv_isK (k : Kd) (d : D) (h : dictT d = false) : opv (.isK k) [d] = some (.bool (isKd k d)) := if_neg (by rw [h]; decide)
@[simp] theorem opv_ixL (xs : List D) (i : Int) : opv .ixL [.list xs, .int i] = atI xs i := rfl
@[simp] theorem opv_ixT (xs : List D) (i : Int) : opv .ixT [.tuple xs, .int i] = atI xs i := rfl
@[simp] theorem opv_isKl (k : Kd) (xs : List D) : opv (.isK k) [.list xs] = some (.bool (isKd k (.list xs))) := rfl
@[simp] theorem opv_isKt (k : Kd) (xs : List D) : opv (.isK k) [.tuple xs] = some (.bool (isKd k (.tuple xs))) := rfl
@[simp] theorem opv_isKi (k : Kd) (i : Int) : opv (.isK k) [.int i] = some (.bool (isKd k (.int i))) := rfl
@[simp] theorem opv_isKb (k : Kd) (i : Bool) : opv (.isK k) [.bool i] = some (.bool (isKd k (.bool i))) := rfl
@[simp] theorem opv_isKs (k : Kd) (i : Str) : opv (.isK k) [.str i] = some (.bool (isKd k (.str i))) := rfl
@[simp] theorem opv_isKn (k : Kd) : opv (.isK k) [.none] = some (.bool (isKd k .none)) := rfl
@[simp] theorem dictT_list (xs : List D) : dictT (.list xs) = false := rfl
@[simp] theorem dictT_tuple (xs : List D) : dictT (.tuple xs) = false := rfl
@[simp] theorem dictT_int (i : Int) : dictT (.int i) = false := rfl
@[simp] theorem dictT_bool (i : Bool) : dictT (.bool i) = false := rfl
@[simp] theorem dictT_str (i : Str) : dictT (.str i) = false := rfl
@[simp] theorem dictT_none : dictT .none = false := rfl
@[simp] theorem isKd_int (i : Int) : isKd .int (.int i) = true := rfl
@[simp] theorem isKd_boolI (i : Int) : isKd .bool (.int i) = false := rfl
@[simp] theorem isKd_listL (xs : List D) : isKd .list (.list xs) = true := rfl
@[simp] theorem isKd_tupT (xs : List D) : isKd .tup (.tuple xs) = true := rfl
theorem atI_nat {α : Type} (xs : List α) (k : Nat) (h : k < xs.length) : atI xs (k : Int) = some xs[k] := by
  show (L2.ixN xs.length (k : Int)).bind _ = _
  have e : L2.ixN xs.length (k : Int) = some k := by
    unfold L2.ixN
    rw [if_pos (by omega), if_pos (by omega)]
    simp
  rw [e, Option.bind_some, List.getElem?_eq_getElem h]
def _root_.En.Fl.res : Fl → Res D
  | .nx _ => .ok .none
  | .rt d => .ok d
  | .ex x => .ex x
  | _ => .bad
theorem runB_eq (b : B) (n : Nat) (ds : List D) : runB c b n ds = (execB c b (ds ++ List.replicate (n - ds.length) .none)).res := by
  unfold runB
  cases execB c b (ds ++ List.replicate (n - ds.length) .none) <;> rfl
@[simp] theorem res_nx (ρ : Env) : (Fl.nx ρ).res = .ok .none := rfl
@[simp] theorem res_rt (d : D) : (Fl.rt d).res = .ok d := rfl
@[simp] theorem tail_res (r : Res D) (k : Env → Fl) : ((r.fl .rt).then k).res = r := by cases r <;> rfl
@[simp] theorem tail_res0 (r : Res D) : (r.fl .rt).res = r := by cases r <;> rfl
@[simp] theorem opv_intB (b : Bool) : opv .intB [.bool b] = some (.int (if b then 1 else 0)) := rfl
@[simp] theorem opv_srt {xs : List D} (h : srtOk xs = true) : opv .srt [.list xs] = some (.list (sortD xs)) := if_pos h
theorem sort_mem {xs : List D} {d : D} : d ∈ sortD xs ↔ d ∈ xs := List.mem_mergeSort
theorem sort_len (xs : List D) : (sortD xs).length = xs.length := List.length_mergeSort _
theorem canLay_list {xs : List D} (h : ∀ d ∈ xs, d.canLay0 = true) : PyData.canLayAll0 xs = true := by
  induction xs with
  | nil => rfl
  | cons x xs ih => simp [PyData.canLayAll0, h x List.mem_cons_self, ih fun d hd => h d (List.mem_cons_of_mem _ hd)]
def asL : D → Res (List D)
  | .list xs => .ok xs
  | _ => .bad
def asT : D → Res (List D)
  | .tuple xs => .ok xs
  | _ => .bad
@[simp] theorem asL_list (xs : List D) : asL (.list xs) = .ok xs := rfl
@[simp] theorem asT_tuple (xs : List D) : asT (.tuple xs) = .ok xs := rfl
@[simp] theorem evI_lstE (e : E) : evI c (.lst e) ρ = (ev c e ρ).bind asL := by
  show ((ev c e ρ).bind fun d => match d with | .list xs => .ok xs | _ => .bad) = _
  cases ev c e ρ with
  | ok d => cases d <;> rfl
  | ex _ => rfl
  | bad => rfl
@[simp] theorem evI_tupE (e : E) : evI c (.tup e) ρ = (ev c e ρ).bind asT := by
  show ((ev c e ρ).bind fun d => match d with | .tuple xs => .ok xs | _ => .bad) = _
  cases ev c e ρ with
  | ok d => cases d <;> rfl
  | ex _ => rfl
  | bad => rfl
@[simp] theorem setTg_s (i : Nat) (d : D) : setTg (.s i) d ρ = some (ρ.set i d) := rfl
@[simp] theorem clear_nil : clear [] ρ = ρ := rfl
@[simp] theorem clear_cons (i : Nat) (cl : List Nat) : clear (i :: cl) ρ = clear cl (ρ.set i .none) := rfl
@[simp] theorem lcD_nil (f : D → Res (Option D)) : lcD f [] = .ok [] := rfl
@[simp] theorem lcD_cons (f : D → Res (Option D)) (d : D) (ds : List D) : lcD f (d :: ds) = (f d).bind fun o => (lcD f ds).bind fun r => .ok (match o with | some y => y :: r | none => r) := rfl
@[simp] theorem atI0 {α : Type} (x : α) (xs : List α) : atI (x :: xs) 0 = some x := by
  have := atI_nat (x :: xs) 0 (by simp)
  simpa using this
@[simp] theorem atI1 {α : Type} (x y : α) (xs : List α) : atI (x :: y :: xs) 1 = some y := by
  have := atI_nat (x :: y :: xs) 1 (by simp)
  simpa using this
@[simp] theorem atI2 {α : Type} (x y z : α) (xs : List α) : atI (x :: y :: z :: xs) 2 = some z := by
  have := atI_nat (x :: y :: z :: xs) 2 (by simp)
  simpa using this
@[simp] theorem atI3 {α : Type} (x y z u : α) (xs : List α) : atI (x :: y :: z :: u :: xs) 3 = some u := by
  have := atI_nat (x :: y :: z :: u :: xs) 3 (by simp)
  simpa using this
@[simp] theorem atI4 {α : Type} (x y z u v : α) (xs : List α) : atI (x :: y :: z :: u :: v :: xs) 4 = some v := by
  have := atI_nat (x :: y :: z :: u :: v :: xs) 4 (by simp)
  simpa using this
@[simp] theorem atI5 {α : Type} (x y z u v w : α) (xs : List α) : atI (x :: y :: z :: u :: v :: w :: xs) 5 = some w := by
  have := atI_nat (x :: y :: z :: u :: v :: w :: xs) 5 (by simp)
  simpa using this
@[simp] theorem evI_zipT (es : Es) : evI c (.zipT es) ρ = (evs c es ρ).bind fun ds => (Res.of (tupsOf ds)).bind fun xss => .ok (zipD xss) := rfl
@[simp] theorem evI_zipL (es : Es) : evI c (.zipL es) ρ = (evs c es ρ).bind fun ds => (Res.of (listsOf ds)).bind fun xss => .ok (zipD xss) := rfl
@[simp] theorem evI_rng1 (e : E) : evI c (.rng (.cons e .nil)) ρ = (ev c e ρ).bind fun d => match d with
    | .int b => if rgOk 0 b 1 then .ok (rangeD 0 b 1) else .bad
    | _ => .bad := by
  show ((evs c (.cons e .nil) ρ).bind fun ds => match ds with
    | [.int b] => if rgOk 0 b 1 then .ok (rangeD 0 b 1) else .bad
    | [.int a, .int b] => if rgOk a b 1 then .ok (rangeD a b 1) else .bad
    | [.int a, .int b, .int s] => if rgOk a b s then .ok (rangeD a b s) else .bad
    | _ => .bad) = _
  rw [evs_cons]
  cases ev c e ρ with
  | ok d => cases d <;> rfl
  | ex _ => rfl
  | bad => rfl
theorem rng3 : rangeD 0 3 1 = [.int 0, .int 1, .int 2] := rfl
theorem shp_int (i : Int) : shp (.int i) = true := rfl
end En

set_option Elab.async false
set_option linter.all false
set_option autoImplicit false
set_option maxRecDepth 100000
namespace En
open PySem
/-! ## sizes -/
theorem log2_mono {a b : Nat} (h : a ≤ b) : a.log2 ≤ b.log2 := by
  by_cases ha : a = 0
  · subst ha; simp
  · have hb : b ≠ 0 := by omega
    have h1 : b < 2 ^ (b.log2 + 1) := Nat.lt_log2_self
    have h2 : a < 2 ^ (b.log2 + 1) := Nat.lt_of_le_of_lt h h1
    have := (Nat.log2_lt ha).2 h2
    omega
def far (x : Int) : Prop := x.natAbs.log2 < farN
theorem mul_far {a b : Int} (ha : far a) (hb : far b) : mulOk a b = true := by
  unfold mulOk
  rw [decide_eq_true (show a.natAbs.log2 < farN from ha), decide_eq_true (show b.natAbs.log2 < farN from hb)]
  simp
theorem far_bd {x : Int} (h : x.natAbs < 2 ^ 256) : far x := by
  unfold far farN
  by_cases hx : x.natAbs = 0
  · rw [hx]; decide
  · have := (Nat.log2_lt hx).2 h
    omega
theorem bd_mul {a b : Int} {m n : Nat} (ha : a.natAbs ≤ m) (hb : b.natAbs ≤ n) : (a * b).natAbs ≤ m * n := by
  rw [Int.natAbs_mul]
  exact Nat.mul_le_mul ha hb
theorem far_cell {z : Int} (h : Builtin.Int.intBits z ≤ 1048576) : far z := by
  unfold far farN
  unfold Builtin.Int.intBits at h
  split at h
  · rename_i e
    have : z = 0 := by simpa using e
    rw [this]
    decide
  · omega
theorem far_le {x z : Int} (h : far z) (l : x.natAbs ≤ z.natAbs) : far x := Nat.lt_of_le_of_lt (log2_mono l) h
theorem eqv_self {d : D} (h : d.canLay0 = true) : PyData.eqv d d = true := PySem.SeqAt.eqv_refl d h
/-- a script's cell -/
def cv (ns : List Int) (k : Nat) : Int := ns.getD k 0
theorem cv_far {ns : List Int} (hb : ∀ z ∈ ns, Builtin.Int.intBits z ≤ 1048576) (k : Nat) : far (cv ns k) := by
  unfold cv
  by_cases h : k < ns.length
  · rw [List.getD_eq_getElem?_getD, List.getElem?_eq_getElem h]
    exact far_cell (hb _ (List.getElem_mem h))
  · rw [List.getD_eq_getElem?_getD, List.getElem?_eq_none (by omega)]
    show (0 : Int).natAbs.log2 < farN
    decide
abbrev T3 (a b c : Int) : D := .tuple [.int a, .int b, .int c]
theorem szOk {α : Type} {xs : List α} (h : Nat.ble xs.length 1000 = true) : xs.length ≤ sizeLine := Nat.le_trans (Nat.le_of_ble_eq_true h) (by decide)
end En

set_option Elab.async false
set_option linter.all false
set_option autoImplicit false
set_option maxRecDepth 100000
set_option maxHeartbeats 4000000
set_option pp.maxSteps 60
namespace K02
open PySem PySem.Spec PyProof.Rows L2 En
def g_UNITS : D := .tuple [.tuple [.int (-1), .int 0, .int 0], .tuple [.int 0, .int (-1), .int 0], .tuple [.int 0, .int 0, .int (-1)], .tuple [.int 0, .int 0, .int 1], .tuple [.int 0, .int 1, .int 0], .tuple [.int 1, .int 0, .int 0]]
def topS (i : Nat) : Stmt := PySem.Challenge.pw_sheetfold_k02_twenty_four_turns.main.body.getD i (.Pass ⟨0, 0, 0, 0⟩)
def t__law_units : B := (.cons (.ret (.lst (.cons (.tup (.cons (.k (.int 1)) (.cons (.k (.int 0)) (.cons (.k (.int 0)) .nil)))) (.cons (.tup (.cons (.op .neg (.cons (.k (.int 1)) .nil)) (.cons (.k (.int 0)) (.cons (.k (.int 0)) .nil)))) (.cons (.tup (.cons (.k (.int 0)) (.cons (.k (.int 1)) (.cons (.k (.int 0)) .nil)))) (.cons (.tup (.cons (.k (.int 0)) (.cons (.op .neg (.cons (.k (.int 1)) .nil)) (.cons (.k (.int 0)) .nil)))) (.cons (.tup (.cons (.k (.int 0)) (.cons (.k (.int 0)) (.cons (.k (.int 1)) .nil)))) (.cons (.tup (.cons (.k (.int 0)) (.cons (.k (.int 0)) (.cons (.op .neg (.cons (.k (.int 1)) .nil)) .nil)))) .nil)))))))) .nil)
def fi__law_units : FI := ⟨[], [], [], XT.none, none, []⟩
def f__law_units : En.Fun := runB ⟨[], [], []⟩ t__law_units 0
theorem ck__law_units : okDef fi__law_units [] (.N .o .I) t__law_units (topS 13) = true := by decide +kernel
theorem sc__law_units : FnScope [] [] (defScope (topS 13)) := ⟨rfl, rfl, rfl, by decide +kernel, rfl, by decide +kernel, by decide +kernel⟩
def t__law_cross_r2 : B := (.cons (.ret (.tup (.cons (.op .sub (.cons (.op .mul (.cons (.v 3) (.cons (.v 7) .nil))) (.cons (.op .mul (.cons (.v 4) (.cons (.v 6) .nil))) .nil))) (.cons (.op .sub (.cons (.op .mul (.cons (.v 4) (.cons (.v 5) .nil))) (.cons (.op .mul (.cons (.v 2) (.cons (.v 7) .nil))) .nil))) (.cons (.op .sub (.cons (.op .mul (.cons (.v 2) (.cons (.v 6) .nil))) (.cons (.op .mul (.cons (.v 3) (.cons (.v 5) .nil))) .nil))) .nil))))) .nil)
@[simp] theorem x__law_cross_r2 (c : Cg) (ρ : En.Env) : execB c t__law_cross_r2 ρ = (exec c (.ret (.tup (.cons (.op .sub (.cons (.op .mul (.cons (.v 3) (.cons (.v 7) .nil))) (.cons (.op .mul (.cons (.v 4) (.cons (.v 6) .nil))) .nil))) (.cons (.op .sub (.cons (.op .mul (.cons (.v 4) (.cons (.v 5) .nil))) (.cons (.op .mul (.cons (.v 2) (.cons (.v 7) .nil))) .nil))) (.cons (.op .sub (.cons (.op .mul (.cons (.v 2) (.cons (.v 6) .nil))) (.cons (.op .mul (.cons (.v 3) (.cons (.v 5) .nil))) .nil))) .nil))))) ρ).then (execB c .nil) := rfl
def t__law_cross_r1 : B := (.cons (.set (.t [5, 6, 7]) (.v 1)) t__law_cross_r2)
@[simp] theorem x__law_cross_r1 (c : Cg) (ρ : En.Env) : execB c t__law_cross_r1 ρ = (exec c (.set (.t [5, 6, 7]) (.v 1)) ρ).then (execB c t__law_cross_r2) := rfl
def t__law_cross : B := (.cons (.set (.t [2, 3, 4]) (.v 0)) t__law_cross_r1)
def fi__law_cross : FI := ⟨["_law_one", "_law_other", "_law_a", "_law_b", "_law_c", "_law_d", "_law_e", "_law_f"], [], [], XT.none, none, []⟩
def f__law_cross : En.Fun := runB ⟨[], [], []⟩ t__law_cross 8
theorem ck__law_cross : okDef fi__law_cross [.I, .I] .I t__law_cross (topS 12) = true := by decide +kernel
theorem sc__law_cross : FnScope ["_law_one", "_law_other", "_law_a", "_law_b", "_law_c", "_law_d", "_law_e", "_law_f"] ["_law_one", "_law_other"] (defScope (topS 12)) := ⟨rfl, rfl, rfl, by decide +kernel, rfl, by decide +kernel, by decide +kernel⟩
def t__law_turn_r3 : B := (.cons (.ret (.tup (.cons (.v 1) (.cons (.v 4) (.cons (.call 1 (.cons (.v 1) (.cons (.v 4) .nil)) []) .nil))))) .nil)
@[simp] theorem x__law_turn_r3 (c : Cg) (ρ : En.Env) : execB c t__law_turn_r3 ρ = (exec c (.ret (.tup (.cons (.v 1) (.cons (.v 4) (.cons (.call 1 (.cons (.v 1) (.cons (.v 4) .nil)) []) .nil))))) ρ).then (execB c .nil) := rfl
def t__law_turn_r2 : B := (.cons (.set (.s 4) (.op .ixL (.cons (.v 3) (.cons (.op .mod (.cons (.op .fdiv (.cons (.v 0) (.cons (.k (.int 6)) .nil))) (.cons (.k (.int 4)) .nil))) .nil)))) t__law_turn_r3)
@[simp] theorem x__law_turn_r2 (c : Cg) (ρ : En.Env) : execB c t__law_turn_r2 ρ = (exec c (.set (.s 4) (.op .ixL (.cons (.v 3) (.cons (.op .mod (.cons (.op .fdiv (.cons (.v 0) (.cons (.k (.int 6)) .nil))) (.cons (.k (.int 4)) .nil))) .nil)))) ρ).then (execB c t__law_turn_r3) := rfl
def t__law_turn_r1 : B := (.cons (.set (.s 3) (.lc (.lst (.call 0 .nil [])) (.s 2) (.op .ne (.cons (.call 1 (.cons (.v 1) (.cons (.v 2) .nil)) []) (.cons (.tup (.cons (.k (.int 0)) (.cons (.k (.int 0)) (.cons (.k (.int 0)) .nil)))) .nil))) (.v 2))) t__law_turn_r2)
@[simp] theorem x__law_turn_r1 (c : Cg) (ρ : En.Env) : execB c t__law_turn_r1 ρ = (exec c (.set (.s 3) (.lc (.lst (.call 0 .nil [])) (.s 2) (.op .ne (.cons (.call 1 (.cons (.v 1) (.cons (.v 2) .nil)) []) (.cons (.tup (.cons (.k (.int 0)) (.cons (.k (.int 0)) (.cons (.k (.int 0)) .nil)))) .nil))) (.v 2))) ρ).then (execB c t__law_turn_r2) := rfl
def t__law_turn : B := (.cons (.set (.s 1) (.op .ixL (.cons (.call 0 .nil []) (.cons (.op .mod (.cons (.v 0) (.cons (.k (.int 6)) .nil))) .nil)))) t__law_turn_r1)
def fi__law_turn : FI := ⟨["_law_cell", "_law_one", "_law_unit", "_law_others", "_law_other"], [("_law_units", [], (.N .o .I), [[]]), ("_law_cross", [.I, .I], .I, [[]])], [], XT.none, none, []⟩
def f__law_turn : En.Fun := runB ⟨[f__law_units, f__law_cross], [], []⟩ t__law_turn 5
theorem ck__law_turn : okDef fi__law_turn [.I] .I t__law_turn (topS 14) = true := by decide +kernel
theorem sc__law_turn : FnScope ["_law_cell", "_law_one", "_law_unit", "_law_others", "_law_other"] ["_law_cell"] (defScope (topS 14)) := ⟨rfl, rfl, rfl, by decide +kernel, rfl, by decide +kernel, by decide +kernel⟩
def t__law_cell_at : B := (.cons (.ite (.op .lt (.cons (.v 1) (.cons (.op .len (.cons (.v 0) .nil)) .nil))) (.cons (.ret (.op .ixL (.cons (.v 0) (.cons (.v 1) .nil)))) .nil) .nil []) (.cons (.ret (.k (.int 0))) .nil))
def fi__law_cell_at : FI := ⟨["_law_script", "_law_k"], [], [], XT.none, none, []⟩
def f__law_cell_at : En.Fun := runB ⟨[], [], []⟩ t__law_cell_at 2
theorem ck__law_cell_at : okDef fi__law_cell_at [(.N .f .I), .I] .I t__law_cell_at (topS 9) = true := by decide +kernel
theorem sc__law_cell_at : FnScope ["_law_script", "_law_k"] ["_law_script", "_law_k"] (defScope (topS 9)) := ⟨rfl, rfl, rfl, by decide +kernel, rfl, by decide +kernel, by decide +kernel⟩
def t_cross_r3 : B := (.cons (.ret (.tup (.cons (.v 2) (.cons (.v 3) (.cons (.v 4) .nil))))) .nil)
@[simp] theorem x_cross_r3 (c : Cg) (ρ : En.Env) : execB c t_cross_r3 ρ = (exec c (.ret (.tup (.cons (.v 2) (.cons (.v 3) (.cons (.v 4) .nil))))) ρ).then (execB c .nil) := rfl
def t_cross_r2 : B := (.cons (.set (.s 4) (.op .sub (.cons (.op .mul (.cons (.imm (.op .ixT (.cons (.v 0) (.cons (.k (.int 0)) .nil)))) (.cons (.imm (.op .ixT (.cons (.v 1) (.cons (.k (.int 1)) .nil)))) .nil))) (.cons (.op .mul (.cons (.imm (.op .ixT (.cons (.v 0) (.cons (.k (.int 1)) .nil)))) (.cons (.imm (.op .ixT (.cons (.v 1) (.cons (.k (.int 0)) .nil)))) .nil))) .nil)))) t_cross_r3)
@[simp] theorem x_cross_r2 (c : Cg) (ρ : En.Env) : execB c t_cross_r2 ρ = (exec c (.set (.s 4) (.op .sub (.cons (.op .mul (.cons (.imm (.op .ixT (.cons (.v 0) (.cons (.k (.int 0)) .nil)))) (.cons (.imm (.op .ixT (.cons (.v 1) (.cons (.k (.int 1)) .nil)))) .nil))) (.cons (.op .mul (.cons (.imm (.op .ixT (.cons (.v 0) (.cons (.k (.int 1)) .nil)))) (.cons (.imm (.op .ixT (.cons (.v 1) (.cons (.k (.int 0)) .nil)))) .nil))) .nil)))) ρ).then (execB c t_cross_r3) := rfl
def t_cross_r1 : B := (.cons (.set (.s 3) (.op .sub (.cons (.op .mul (.cons (.imm (.op .ixT (.cons (.v 0) (.cons (.k (.int 2)) .nil)))) (.cons (.imm (.op .ixT (.cons (.v 1) (.cons (.k (.int 0)) .nil)))) .nil))) (.cons (.op .mul (.cons (.imm (.op .ixT (.cons (.v 0) (.cons (.k (.int 0)) .nil)))) (.cons (.imm (.op .ixT (.cons (.v 1) (.cons (.k (.int 2)) .nil)))) .nil))) .nil)))) t_cross_r2)
@[simp] theorem x_cross_r1 (c : Cg) (ρ : En.Env) : execB c t_cross_r1 ρ = (exec c (.set (.s 3) (.op .sub (.cons (.op .mul (.cons (.imm (.op .ixT (.cons (.v 0) (.cons (.k (.int 2)) .nil)))) (.cons (.imm (.op .ixT (.cons (.v 1) (.cons (.k (.int 0)) .nil)))) .nil))) (.cons (.op .mul (.cons (.imm (.op .ixT (.cons (.v 0) (.cons (.k (.int 0)) .nil)))) (.cons (.imm (.op .ixT (.cons (.v 1) (.cons (.k (.int 2)) .nil)))) .nil))) .nil)))) ρ).then (execB c t_cross_r2) := rfl
def t_cross : B := (.cons (.set (.s 2) (.op .sub (.cons (.op .mul (.cons (.imm (.op .ixT (.cons (.v 0) (.cons (.k (.int 1)) .nil)))) (.cons (.imm (.op .ixT (.cons (.v 1) (.cons (.k (.int 2)) .nil)))) .nil))) (.cons (.op .mul (.cons (.imm (.op .ixT (.cons (.v 0) (.cons (.k (.int 2)) .nil)))) (.cons (.imm (.op .ixT (.cons (.v 1) (.cons (.k (.int 1)) .nil)))) .nil))) .nil)))) t_cross_r1)
def fi_cross : FI := ⟨["one", "other", "x", "y", "z"], [], [], XT.none, none, []⟩
def f_cross : En.Fun := runB ⟨[], [], []⟩ t_cross 5
theorem ck_cross : okDef fi_cross [(.N .f .I), (.N .f .I)] .I t_cross (topS 2) = true := by decide +kernel
theorem sc_cross : FnScope ["one", "other", "x", "y", "z"] ["one", "other"] (defScope (topS 2)) := ⟨rfl, rfl, rfl, by decide +kernel, rfl, by decide +kernel, by decide +kernel⟩
def t_same_axis : B := (.cons (.ret (.op .eq (.cons (.call 0 (.cons (.v 0) (.cons (.v 1) .nil)) []) (.cons (.tup (.cons (.k (.int 0)) (.cons (.k (.int 0)) (.cons (.k (.int 0)) .nil)))) .nil)))) .nil)
def fi_same_axis : FI := ⟨["one", "other"], [("cross", [(.N .f .I), (.N .f .I)], .I, [[]])], [], XT.none, none, []⟩
def f_same_axis : En.Fun := runB ⟨[f_cross], [], []⟩ t_same_axis 2
theorem ck_same_axis : okDef fi_same_axis [(.N .f .I), (.N .f .I)] .I t_same_axis (topS 3) = true := by decide +kernel
theorem sc_same_axis : FnScope ["one", "other"] ["one", "other"] (defScope (topS 3)) := ⟨rfl, rfl, rfl, by decide +kernel, rfl, by decide +kernel, by decide +kernel⟩
def t_all_turns_r2 : B := (.cons (.ret (.op .srt (.cons (.v 0) .nil))) .nil)
@[simp] theorem x_all_turns_r2 (c : Cg) (ρ : En.Env) : execB c t_all_turns_r2 ρ = (exec c (.ret (.op .srt (.cons (.v 0) .nil))) ρ).then (execB c .nil) := rfl
def t_all_turns_b1 : B := (.cons (.ite (.not (.call 0 (.cons (.v 1) (.cons (.v 2) .nil)) [])) (.cons (.mu .app 0 .nil (.cons (.tup (.cons (.v 1) (.cons (.v 2) (.cons (.call 1 (.cons (.v 1) (.cons (.v 2) .nil)) []) .nil)))) .nil)) .nil) .nil []) .nil)
def t_all_turns_b0 : B := (.cons (.for (.tup (.g 0)) (.s 2) t_all_turns_b1 [2]) .nil)
def t_all_turns_r1 : B := (.cons (.for (.tup (.g 0)) (.s 1) t_all_turns_b0 [1, 2]) t_all_turns_r2)
@[simp] theorem x_all_turns_r1 (c : Cg) (ρ : En.Env) : execB c t_all_turns_r1 ρ = (exec c (.for (.tup (.g 0)) (.s 1) t_all_turns_b0 [1, 2]) ρ).then (execB c t_all_turns_r2) := rfl
def t_all_turns : B := (.cons (.set (.s 0) (.lst .nil)) t_all_turns_r1)
def fi_all_turns : FI := ⟨["found", "one", "other"], [("same_axis", [(.N .f .I), (.N .f .I)], .I, [[]]), ("cross", [(.N .f .I), (.N .f .I)], .I, [[]])], [("UNITS", .I)], XT.none, none, []⟩
def f_all_turns : En.Fun := runB ⟨[f_same_axis, f_cross], [g_UNITS], []⟩ t_all_turns 3
theorem ck_all_turns : okDef fi_all_turns [] (.N .o .I) t_all_turns (topS 7) = true := by decide +kernel
theorem sc_all_turns : FnScope ["found", "one", "other"] [] (defScope (topS 7)) := ⟨rfl, rfl, rfl, by decide +kernel, rfl, by decide +kernel, by decide +kernel⟩
def t__law_whole : B := (.cons (.ret (.and (.op (.isK .int) (.cons (.v 0) .nil)) (.not (.op (.isK .bool) (.cons (.v 0) .nil))))) .nil)
def fi__law_whole : FI := ⟨["_law_found"], [], [], XT.none, none, []⟩
def f__law_whole : En.Fun := runB ⟨[], [], []⟩ t__law_whole 1
theorem ck__law_whole : okDef fi__law_whole [.I] .I t__law_whole (topS 10) = true := by decide +kernel
theorem sc__law_whole : FnScope ["_law_found"] ["_law_found"] (defScope (topS 10)) := ⟨rfl, rfl, rfl, by decide +kernel, rfl, by decide +kernel, by decide +kernel⟩
def t__law_triple_r2 : B := (.cons (.ret (.op .eq (.cons (.v 0) (.cons (.v 1) .nil)))) .nil)
@[simp] theorem x__law_triple_r2 (c : Cg) (ρ : En.Env) : execB c t__law_triple_r2 ρ = (exec c (.ret (.op .eq (.cons (.v 0) (.cons (.v 1) .nil)))) ρ).then (execB c .nil) := rfl
def t__law_triple_b0 : B := (.cons (.ite (.not (.call 0 (.cons (.v 2) .nil) [])) (.cons (.ret (.k (.bool false))) .nil) .nil []) .nil)
def t__law_triple_r1 : B := (.cons (.for (.tup (.v 0)) (.s 2) t__law_triple_b0 [2]) t__law_triple_r2)
@[simp] theorem x__law_triple_r1 (c : Cg) (ρ : En.Env) : execB c t__law_triple_r1 ρ = (exec c (.for (.tup (.v 0)) (.s 2) t__law_triple_b0 [2]) ρ).then (execB c t__law_triple_r2) := rfl
def t__law_triple : B := (.cons (.ite (.or (.not (.op (.isK .tup) (.cons (.v 0) .nil))) (.op .ne (.cons (.op .len (.cons (.v 0) .nil)) (.cons (.op .len (.cons (.v 1) .nil)) .nil)))) (.cons (.ret (.k (.bool false))) .nil) .nil []) t__law_triple_r1)
def fi__law_triple : FI := ⟨["_law_found", "_law_due", "_law_number"], [("_law_whole", [.I], .I, [[]])], [], XT.none, none, []⟩
def f__law_triple : En.Fun := runB ⟨[f__law_whole], [], []⟩ t__law_triple 3
theorem ck__law_triple : okDef fi__law_triple [.I, .I] .I t__law_triple (topS 11) = true := by decide +kernel
theorem sc__law_triple : FnScope ["_law_found", "_law_due", "_law_number"] ["_law_found", "_law_due"] (defScope (topS 11)) := ⟨rfl, rfl, rfl, by decide +kernel, rfl, by decide +kernel, by decide +kernel⟩
def t__law_turn_alike_r2 : B := (.cons (.ret (.k (.bool true))) .nil)
@[simp] theorem x__law_turn_alike_r2 (c : Cg) (ρ : En.Env) : execB c t__law_turn_alike_r2 ρ = (exec c (.ret (.k (.bool true))) ρ).then (execB c .nil) := rfl
def t__law_turn_alike_b0 : B := (.cons (.ite (.not (.call 0 (.cons (.op .ixT (.cons (.v 0) (.cons (.v 2) .nil))) (.cons (.op .ixT (.cons (.v 1) (.cons (.v 2) .nil))) .nil)) [])) (.cons (.ret (.k (.bool false))) .nil) .nil []) .nil)
def t__law_turn_alike_r1 : B := (.cons (.for (.rng (.cons (.k (.int 3)) .nil)) (.s 2) t__law_turn_alike_b0 [2]) t__law_turn_alike_r2)
@[simp] theorem x__law_turn_alike_r1 (c : Cg) (ρ : En.Env) : execB c t__law_turn_alike_r1 ρ = (exec c (.for (.rng (.cons (.k (.int 3)) .nil)) (.s 2) t__law_turn_alike_b0 [2]) ρ).then (execB c t__law_turn_alike_r2) := rfl
def t__law_turn_alike : B := (.cons (.ite (.or (.not (.op (.isK .tup) (.cons (.v 0) .nil))) (.op .ne (.cons (.op .len (.cons (.v 0) .nil)) (.cons (.k (.int 3)) .nil)))) (.cons (.ret (.k (.bool false))) .nil) .nil []) t__law_turn_alike_r1)
def fi__law_turn_alike : FI := ⟨["_law_found", "_law_due", "_law_k"], [("_law_triple", [.I, .I], .I, [[]])], [], XT.none, none, []⟩
def f__law_turn_alike : En.Fun := runB ⟨[f__law_triple], [], []⟩ t__law_turn_alike 3
theorem ck__law_turn_alike : okDef fi__law_turn_alike [.I, .I] .I t__law_turn_alike (topS 15) = true := by decide +kernel
theorem sc__law_turn_alike : FnScope ["_law_found", "_law_due", "_law_k"] ["_law_found", "_law_due"] (defScope (topS 15)) := ⟨rfl, rfl, rfl, by decide +kernel, rfl, by decide +kernel, by decide +kernel⟩
def t__law_turns_right_r3 : B := (.cons (.ret (.k (.bool true))) .nil)
@[simp] theorem x__law_turns_right_r3 (c : Cg) (ρ : En.Env) : execB c t__law_turns_right_r3 ρ = (exec c (.ret (.k (.bool true))) ρ).then (execB c .nil) := rfl
def t__law_turns_right_b0_r4 : B := (.cons (.set (.s 1) (.v 2)) .nil)
@[simp] theorem x__law_turns_right_b0_r4 (c : Cg) (ρ : En.Env) : execB c t__law_turns_right_b0_r4 ρ = (exec c (.set (.s 1) (.v 2)) ρ).then (execB c .nil) := rfl
def t__law_turns_right_b0_r3 : B := (.cons (.ite (.and (.op .notN (.cons (.v 1) (.cons (.k .non) .nil))) (.not (.op .ltD (.cons (.v 1) (.cons (.v 2) .nil))))) (.cons (.ret (.k (.bool false))) .nil) .nil []) t__law_turns_right_b0_r4)
@[simp] theorem x__law_turns_right_b0_r3 (c : Cg) (ρ : En.Env) : execB c t__law_turns_right_b0_r3 ρ = (exec c (.ite (.and (.op .notN (.cons (.v 1) (.cons (.k .non) .nil))) (.not (.op .ltD (.cons (.v 1) (.cons (.v 2) .nil))))) (.cons (.ret (.k (.bool false))) .nil) .nil []) ρ).then (execB c t__law_turns_right_b0_r4) := rfl
def t__law_turns_right_b0_r2 : B := (.cons (.ite (.not (.call 1 (.cons (.v 2) (.cons (.tup (.cons (.op .ixT (.cons (.v 2) (.cons (.k (.int 0)) .nil))) (.cons (.op .ixT (.cons (.v 2) (.cons (.k (.int 1)) .nil))) (.cons (.call 2 (.cons (.op .ixT (.cons (.v 2) (.cons (.k (.int 0)) .nil))) (.cons (.op .ixT (.cons (.v 2) (.cons (.k (.int 1)) .nil))) .nil)) []) .nil)))) .nil)) [])) (.cons (.ret (.k (.bool false))) .nil) .nil []) t__law_turns_right_b0_r3)
@[simp] theorem x__law_turns_right_b0_r2 (c : Cg) (ρ : En.Env) : execB c t__law_turns_right_b0_r2 ρ = (exec c (.ite (.not (.call 1 (.cons (.v 2) (.cons (.tup (.cons (.op .ixT (.cons (.v 2) (.cons (.k (.int 0)) .nil))) (.cons (.op .ixT (.cons (.v 2) (.cons (.k (.int 1)) .nil))) (.cons (.call 2 (.cons (.op .ixT (.cons (.v 2) (.cons (.k (.int 0)) .nil))) (.cons (.op .ixT (.cons (.v 2) (.cons (.k (.int 1)) .nil))) .nil)) []) .nil)))) .nil)) [])) (.cons (.ret (.k (.bool false))) .nil) .nil []) ρ).then (execB c t__law_turns_right_b0_r3) := rfl
def t__law_turns_right_b0_r1 : B := (.cons (.ite (.or (.op (.inn true) (.cons (.op .ixT (.cons (.v 2) (.cons (.k (.int 0)) .nil))) (.cons (.call 0 .nil []) .nil))) (.or (.op (.inn true) (.cons (.op .ixT (.cons (.v 2) (.cons (.k (.int 1)) .nil))) (.cons (.call 0 .nil []) .nil))) (.op .eq (.cons (.op .ixT (.cons (.v 2) (.cons (.k (.int 2)) .nil))) (.cons (.tup (.cons (.k (.int 0)) (.cons (.k (.int 0)) (.cons (.k (.int 0)) .nil)))) .nil))))) (.cons (.ret (.k (.bool false))) .nil) .nil []) t__law_turns_right_b0_r2)
@[simp] theorem x__law_turns_right_b0_r1 (c : Cg) (ρ : En.Env) : execB c t__law_turns_right_b0_r1 ρ = (exec c (.ite (.or (.op (.inn true) (.cons (.op .ixT (.cons (.v 2) (.cons (.k (.int 0)) .nil))) (.cons (.call 0 .nil []) .nil))) (.or (.op (.inn true) (.cons (.op .ixT (.cons (.v 2) (.cons (.k (.int 1)) .nil))) (.cons (.call 0 .nil []) .nil))) (.op .eq (.cons (.op .ixT (.cons (.v 2) (.cons (.k (.int 2)) .nil))) (.cons (.tup (.cons (.k (.int 0)) (.cons (.k (.int 0)) (.cons (.k (.int 0)) .nil)))) .nil))))) (.cons (.ret (.k (.bool false))) .nil) .nil []) ρ).then (execB c t__law_turns_right_b0_r2) := rfl
def t__law_turns_right_b0 : B := (.cons (.ite (.or (.not (.op (.isK .tup) (.cons (.v 2) .nil))) (.op .ne (.cons (.op .len (.cons (.v 2) .nil)) (.cons (.k (.int 3)) .nil)))) (.cons (.ret (.k (.bool false))) .nil) .nil []) t__law_turns_right_b0_r1)
def t__law_turns_right_r2 : B := (.cons (.for (.lst (.v 0)) (.s 2) t__law_turns_right_b0 [2]) t__law_turns_right_r3)
@[simp] theorem x__law_turns_right_r2 (c : Cg) (ρ : En.Env) : execB c t__law_turns_right_r2 ρ = (exec c (.for (.lst (.v 0)) (.s 2) t__law_turns_right_b0 [2]) ρ).then (execB c t__law_turns_right_r3) := rfl
def t__law_turns_right_r1 : B := (.cons (.set (.s 1) (.k .non)) t__law_turns_right_r2)
@[simp] theorem x__law_turns_right_r1 (c : Cg) (ρ : En.Env) : execB c t__law_turns_right_r1 ρ = (exec c (.set (.s 1) (.k .non)) ρ).then (execB c t__law_turns_right_r2) := rfl
def t__law_turns_right : B := (.cons (.ite (.or (.not (.op (.isK .list) (.cons (.v 0) .nil))) (.op .ne (.cons (.op .len (.cons (.v 0) .nil)) (.cons (.k (.int 24)) .nil)))) (.cons (.ret (.k (.bool false))) .nil) .nil []) t__law_turns_right_r1)
def fi__law_turns_right : FI := ⟨["_law_found", "_law_last", "_law_turn_here"], [("_law_units", [], (.N .o .I), [[]]), ("_law_turn_alike", [.I, .I], .I, [[]]), ("_law_cross", [.I, .I], .I, [[]])], [], XT.none, none, []⟩
def f__law_turns_right : En.Fun := runB ⟨[f__law_units, f__law_turn_alike, f__law_cross], [], []⟩ t__law_turns_right 3
theorem ck__law_turns_right : okDef fi__law_turns_right [(.N .f .I)] .I t__law_turns_right (topS 17) = true := by decide +kernel
theorem sc__law_turns_right : FnScope ["_law_found", "_law_last", "_law_turn_here"] ["_law_found"] (defScope (topS 17)) := ⟨rfl, rfl, rfl, by decide +kernel, rfl, by decide +kernel, by decide +kernel⟩
def t_is_whole : B := (.cons (.ret (.and (.op (.isK .int) (.cons (.v 0) .nil)) (.not (.op (.isK .bool) (.cons (.v 0) .nil))))) .nil)
def fi_is_whole : FI := ⟨["thing"], [], [], XT.none, none, []⟩
def f_is_whole : En.Fun := runB ⟨[], [], []⟩ t_is_whole 1
theorem ck_is_whole : okDef fi_is_whole [(.N .f .I)] .I t_is_whole (topS 4) = true := by decide +kernel
theorem sc_is_whole : FnScope ["thing"] ["thing"] (defScope (topS 4)) := ⟨rfl, rfl, rfl, by decide +kernel, rfl, by decide +kernel, by decide +kernel⟩
def t_is_unit_r2 : B := (.cons (.ret (.op (.inn false) (.cons (.v 0) (.cons (.g 0) .nil)))) .nil)
@[simp] theorem x_is_unit_r2 (c : Cg) (ρ : En.Env) : execB c t_is_unit_r2 ρ = (exec c (.ret (.op (.inn false) (.cons (.v 0) (.cons (.g 0) .nil)))) ρ).then (execB c .nil) := rfl
def t_is_unit_b0 : B := (.cons (.ite (.not (.call 0 (.cons (.v 1) .nil) [])) (.cons (.ret (.k (.bool false))) .nil) .nil []) .nil)
def t_is_unit_r1 : B := (.cons (.for (.tup (.v 0)) (.s 1) t_is_unit_b0 [1]) t_is_unit_r2)
@[simp] theorem x_is_unit_r1 (c : Cg) (ρ : En.Env) : execB c t_is_unit_r1 ρ = (exec c (.for (.tup (.v 0)) (.s 1) t_is_unit_b0 [1]) ρ).then (execB c t_is_unit_r2) := rfl
def t_is_unit : B := (.cons (.ite (.or (.not (.op (.isK .tup) (.cons (.v 0) .nil))) (.op .ne (.cons (.op .len (.cons (.v 0) .nil)) (.cons (.k (.int 3)) .nil)))) (.cons (.ret (.k (.bool false))) .nil) .nil []) t_is_unit_r1)
def fi_is_unit : FI := ⟨["thing", "number"], [("is_whole", [(.N .f .I)], .I, [[]])], [("UNITS", .I)], XT.none, none, []⟩
def f_is_unit : En.Fun := runB ⟨[f_is_whole], [g_UNITS], []⟩ t_is_unit 2
theorem ck_is_unit : okDef fi_is_unit [(.N .f .I)] .I t_is_unit (topS 5) = true := by decide +kernel
theorem sc_is_unit : FnScope ["thing", "number"] ["thing"] (defScope (topS 5)) := ⟨rfl, rfl, rfl, by decide +kernel, rfl, by decide +kernel, by decide +kernel⟩
def t_is_turn_r2 : B := (.cons (.ret (.and (.not (.call 1 (.cons (.op .ixT (.cons (.v 0) (.cons (.k (.int 0)) .nil))) (.cons (.op .ixT (.cons (.v 0) (.cons (.k (.int 1)) .nil))) .nil)) [])) (.op .eq (.cons (.call 2 (.cons (.op .ixT (.cons (.v 0) (.cons (.k (.int 0)) .nil))) (.cons (.op .ixT (.cons (.v 0) (.cons (.k (.int 1)) .nil))) .nil)) []) (.cons (.op .ixT (.cons (.v 0) (.cons (.k (.int 2)) .nil))) .nil))))) .nil)
@[simp] theorem x_is_turn_r2 (c : Cg) (ρ : En.Env) : execB c t_is_turn_r2 ρ = (exec c (.ret (.and (.not (.call 1 (.cons (.op .ixT (.cons (.v 0) (.cons (.k (.int 0)) .nil))) (.cons (.op .ixT (.cons (.v 0) (.cons (.k (.int 1)) .nil))) .nil)) [])) (.op .eq (.cons (.call 2 (.cons (.op .ixT (.cons (.v 0) (.cons (.k (.int 0)) .nil))) (.cons (.op .ixT (.cons (.v 0) (.cons (.k (.int 1)) .nil))) .nil)) []) (.cons (.op .ixT (.cons (.v 0) (.cons (.k (.int 2)) .nil))) .nil))))) ρ).then (execB c .nil) := rfl
def t_is_turn_b0 : B := (.cons (.ite (.not (.call 0 (.cons (.v 1) .nil) [])) (.cons (.ret (.k (.bool false))) .nil) .nil []) .nil)
def t_is_turn_r1 : B := (.cons (.for (.tup (.v 0)) (.s 1) t_is_turn_b0 [1]) t_is_turn_r2)
@[simp] theorem x_is_turn_r1 (c : Cg) (ρ : En.Env) : execB c t_is_turn_r1 ρ = (exec c (.for (.tup (.v 0)) (.s 1) t_is_turn_b0 [1]) ρ).then (execB c t_is_turn_r2) := rfl
def t_is_turn : B := (.cons (.ite (.or (.not (.op (.isK .tup) (.cons (.v 0) .nil))) (.op .ne (.cons (.op .len (.cons (.v 0) .nil)) (.cons (.k (.int 3)) .nil)))) (.cons (.ret (.k (.bool false))) .nil) .nil []) t_is_turn_r1)
def fi_is_turn : FI := ⟨["thing", "unit"], [("is_unit", [(.N .f .I)], .I, [[]]), ("same_axis", [(.N .f .I), (.N .f .I)], .I, [[]]), ("cross", [(.N .f .I), (.N .f .I)], .I, [[]])], [], XT.none, none, []⟩
def f_is_turn : En.Fun := runB ⟨[f_is_unit, f_same_axis, f_cross], [], []⟩ t_is_turn 2
theorem ck_is_turn : okDef fi_is_turn [(.N .f .I)] .I t_is_turn (topS 6) = true := by decide +kernel
theorem sc_is_turn : FnScope ["thing", "unit"] ["thing"] (defScope (topS 6)) := ⟨rfl, rfl, rfl, by decide +kernel, rfl, by decide +kernel, by decide +kernel⟩
def t__law_odd_r6 : B := (.cons (.ret (.op .ixL (.cons (.v 10) (.cons (.op .sub (.cons (.v 1) (.cons (.k (.int 9)) .nil))) .nil)))) .nil)
@[simp] theorem x__law_odd_r6 (c : Cg) (ρ : En.Env) : execB c t__law_odd_r6 ρ = (exec c (.ret (.op .ixL (.cons (.v 10) (.cons (.op .sub (.cons (.v 1) (.cons (.k (.int 9)) .nil))) .nil)))) ρ).then (execB c .nil) := rfl
def t__law_odd_r5 : B := (.cons (.set (.s 10) (.lst (.cons (.op .listT (.cons (.v 0) .nil)) (.cons (.tup (.cons (.v 3) (.cons (.v 4) .nil))) (.cons (.op .catT (.cons (.v 0) (.cons (.tup (.cons (.v 3) .nil)) .nil))) (.cons (.k .non) (.cons (.k (.int 7)) (.cons (.k (.str "turn")) (.cons (.v 3) .nil))))))))) t__law_odd_r6)
@[simp] theorem x__law_odd_r5 (c : Cg) (ρ : En.Env) : execB c t__law_odd_r5 ρ = (exec c (.set (.s 10) (.lst (.cons (.op .listT (.cons (.v 0) .nil)) (.cons (.tup (.cons (.v 3) (.cons (.v 4) .nil))) (.cons (.op .catT (.cons (.v 0) (.cons (.tup (.cons (.v 3) .nil)) .nil))) (.cons (.k .non) (.cons (.k (.int 7)) (.cons (.k (.str "turn")) (.cons (.v 3) .nil))))))))) ρ).then (execB c t__law_odd_r6) := rfl
def t__law_odd_r4 : B := (.cons (.ite (.op .eq (.cons (.v 1) (.cons (.k (.int 8)) .nil))) (.cons (.set (.s 9) (.op .ixT (.cons (.v 0) (.cons (.v 2) .nil)))) (.cons (.ret (.op .catT (.cons (.op .catT (.cons (.op (.slT false true) (.cons (.v 0) (.cons (.v 2) .nil))) (.cons (.tup (.cons (.tup (.cons (.op .eq (.cons (.op .ixT (.cons (.v 9) (.cons (.k (.int 0)) .nil))) (.cons (.k (.int 1)) .nil))) (.cons (.op .ixT (.cons (.v 9) (.cons (.k (.int 1)) .nil))) (.cons (.op .ixT (.cons (.v 9) (.cons (.k (.int 2)) .nil))) .nil)))) .nil)) .nil))) (.cons (.op (.slT true false) (.cons (.v 0) (.cons (.op .add (.cons (.v 2) (.cons (.k (.int 1)) .nil))) .nil))) .nil)))) .nil)) .nil [9]) t__law_odd_r5)
@[simp] theorem x__law_odd_r4 (c : Cg) (ρ : En.Env) : execB c t__law_odd_r4 ρ = (exec c (.ite (.op .eq (.cons (.v 1) (.cons (.k (.int 8)) .nil))) (.cons (.set (.s 9) (.op .ixT (.cons (.v 0) (.cons (.v 2) .nil)))) (.cons (.ret (.op .catT (.cons (.op .catT (.cons (.op (.slT false true) (.cons (.v 0) (.cons (.v 2) .nil))) (.cons (.tup (.cons (.tup (.cons (.op .eq (.cons (.op .ixT (.cons (.v 9) (.cons (.k (.int 0)) .nil))) (.cons (.k (.int 1)) .nil))) (.cons (.op .ixT (.cons (.v 9) (.cons (.k (.int 1)) .nil))) (.cons (.op .ixT (.cons (.v 9) (.cons (.k (.int 2)) .nil))) .nil)))) .nil)) .nil))) (.cons (.op (.slT true false) (.cons (.v 0) (.cons (.op .add (.cons (.v 2) (.cons (.k (.int 1)) .nil))) .nil))) .nil)))) .nil)) .nil [9]) ρ).then (execB c t__law_odd_r5) := rfl
def t__law_odd_r3 : B := (.cons (.ite (.op .lt (.cons (.v 1) (.cons (.k (.int 8)) .nil))) (.cons (.set (.s 7) (.tup (.cons (.op .mul (.cons (.k (.int 2)) (.cons (.op .ixT (.cons (.v 3) (.cons (.k (.int 0)) .nil))) .nil))) (.cons (.op .mul (.cons (.k (.int 2)) (.cons (.op .ixT (.cons (.v 3) (.cons (.k (.int 1)) .nil))) .nil))) (.cons (.op .mul (.cons (.k (.int 2)) (.cons (.op .ixT (.cons (.v 3) (.cons (.k (.int 2)) .nil))) .nil))) .nil))))) (.cons (.set (.s 8) (.op .ixL (.cons (.lst (.cons (.v 7) (.cons (.tup (.cons (.k (.int 0)) (.cons (.k (.int 0)) (.cons (.k (.int 0)) .nil)))) (.cons (.tup (.cons (.k (.str "1")) (.cons (.k (.int 0)) (.cons (.k (.int 0)) .nil)))) (.cons (.op .listT (.cons (.v 3) .nil)) .nil))))) (.cons (.op .sub (.cons (.v 1) (.cons (.k (.int 4)) .nil))) .nil)))) (.cons (.ret (.op .catT (.cons (.op .catT (.cons (.op (.slT false true) (.cons (.v 0) (.cons (.v 2) .nil))) (.cons (.tup (.cons (.v 8) .nil)) .nil))) (.cons (.op (.slT true false) (.cons (.v 0) (.cons (.op .add (.cons (.v 2) (.cons (.k (.int 1)) .nil))) .nil))) .nil)))) .nil))) .nil [7, 8]) t__law_odd_r4)
@[simp] theorem x__law_odd_r3 (c : Cg) (ρ : En.Env) : execB c t__law_odd_r3 ρ = (exec c (.ite (.op .lt (.cons (.v 1) (.cons (.k (.int 8)) .nil))) (.cons (.set (.s 7) (.tup (.cons (.op .mul (.cons (.k (.int 2)) (.cons (.op .ixT (.cons (.v 3) (.cons (.k (.int 0)) .nil))) .nil))) (.cons (.op .mul (.cons (.k (.int 2)) (.cons (.op .ixT (.cons (.v 3) (.cons (.k (.int 1)) .nil))) .nil))) (.cons (.op .mul (.cons (.k (.int 2)) (.cons (.op .ixT (.cons (.v 3) (.cons (.k (.int 2)) .nil))) .nil))) .nil))))) (.cons (.set (.s 8) (.op .ixL (.cons (.lst (.cons (.v 7) (.cons (.tup (.cons (.k (.int 0)) (.cons (.k (.int 0)) (.cons (.k (.int 0)) .nil)))) (.cons (.tup (.cons (.k (.str "1")) (.cons (.k (.int 0)) (.cons (.k (.int 0)) .nil)))) (.cons (.op .listT (.cons (.v 3) .nil)) .nil))))) (.cons (.op .sub (.cons (.v 1) (.cons (.k (.int 4)) .nil))) .nil)))) (.cons (.ret (.op .catT (.cons (.op .catT (.cons (.op (.slT false true) (.cons (.v 0) (.cons (.v 2) .nil))) (.cons (.tup (.cons (.v 8) .nil)) .nil))) (.cons (.op (.slT true false) (.cons (.v 0) (.cons (.op .add (.cons (.v 2) (.cons (.k (.int 1)) .nil))) .nil))) .nil)))) .nil))) .nil [7, 8]) ρ).then (execB c t__law_odd_r4) := rfl
def t__law_odd_r2 : B := (.cons (.ite (.op .lt (.cons (.v 1) (.cons (.k (.int 4)) .nil))) (.cons (.ret (.op .ixL (.cons (.lst (.cons (.tup (.cons (.v 3) (.cons (.v 4) (.cons (.v 6) .nil)))) (.cons (.tup (.cons (.v 4) (.cons (.v 3) (.cons (.v 5) .nil)))) (.cons (.tup (.cons (.v 3) (.cons (.v 3) (.cons (.v 5) .nil)))) (.cons (.tup (.cons (.v 3) (.cons (.tup (.cons (.op .neg (.cons (.op .ixT (.cons (.v 3) (.cons (.k (.int 0)) .nil))) .nil)) (.cons (.op .neg (.cons (.op .ixT (.cons (.v 3) (.cons (.k (.int 1)) .nil))) .nil)) (.cons (.op .neg (.cons (.op .ixT (.cons (.v 3) (.cons (.k (.int 2)) .nil))) .nil)) .nil)))) (.cons (.v 5) .nil)))) .nil))))) (.cons (.v 1) .nil)))) .nil) .nil []) t__law_odd_r3)
@[simp] theorem x__law_odd_r2 (c : Cg) (ρ : En.Env) : execB c t__law_odd_r2 ρ = (exec c (.ite (.op .lt (.cons (.v 1) (.cons (.k (.int 4)) .nil))) (.cons (.ret (.op .ixL (.cons (.lst (.cons (.tup (.cons (.v 3) (.cons (.v 4) (.cons (.v 6) .nil)))) (.cons (.tup (.cons (.v 4) (.cons (.v 3) (.cons (.v 5) .nil)))) (.cons (.tup (.cons (.v 3) (.cons (.v 3) (.cons (.v 5) .nil)))) (.cons (.tup (.cons (.v 3) (.cons (.tup (.cons (.op .neg (.cons (.op .ixT (.cons (.v 3) (.cons (.k (.int 0)) .nil))) .nil)) (.cons (.op .neg (.cons (.op .ixT (.cons (.v 3) (.cons (.k (.int 1)) .nil))) .nil)) (.cons (.op .neg (.cons (.op .ixT (.cons (.v 3) (.cons (.k (.int 2)) .nil))) .nil)) .nil)))) (.cons (.v 5) .nil)))) .nil))))) (.cons (.v 1) .nil)))) .nil) .nil []) ρ).then (execB c t__law_odd_r3) := rfl
def t__law_odd_r1 : B := (.cons (.set (.s 6) (.tup (.cons (.op .neg (.cons (.op .ixT (.cons (.v 5) (.cons (.k (.int 0)) .nil))) .nil)) (.cons (.op .neg (.cons (.op .ixT (.cons (.v 5) (.cons (.k (.int 1)) .nil))) .nil)) (.cons (.op .neg (.cons (.op .ixT (.cons (.v 5) (.cons (.k (.int 2)) .nil))) .nil)) .nil))))) t__law_odd_r2)
@[simp] theorem x__law_odd_r1 (c : Cg) (ρ : En.Env) : execB c t__law_odd_r1 ρ = (exec c (.set (.s 6) (.tup (.cons (.op .neg (.cons (.op .ixT (.cons (.v 5) (.cons (.k (.int 0)) .nil))) .nil)) (.cons (.op .neg (.cons (.op .ixT (.cons (.v 5) (.cons (.k (.int 1)) .nil))) .nil)) (.cons (.op .neg (.cons (.op .ixT (.cons (.v 5) (.cons (.k (.int 2)) .nil))) .nil)) .nil))))) ρ).then (execB c t__law_odd_r2) := rfl
def t__law_odd : B := (.cons (.set (.t [3, 4, 5]) (.v 0)) t__law_odd_r1)
def fi__law_odd : FI := ⟨["_law_turn_here", "_law_kind", "_law_at", "_law_p", "_law_q", "_law_r", "_law_opposite", "_law_double", "_law_other", "_law_unit", "_law_others"], [], [], XT.none, none, []⟩
def f__law_odd : En.Fun := runB ⟨[], [], []⟩ t__law_odd 11
theorem ck__law_odd : okDef fi__law_odd [.I, .I, .I] (.N .r .I) t__law_odd (topS 16) = true := by decide +kernel
theorem sc__law_odd : FnScope ["_law_turn_here", "_law_kind", "_law_at", "_law_p", "_law_q", "_law_r", "_law_opposite", "_law_double", "_law_other", "_law_unit", "_law_others"] ["_law_turn_here", "_law_kind", "_law_at"] (defScope (topS 16)) := ⟨rfl, rfl, rfl, by decide +kernel, rfl, by decide +kernel, by decide +kernel⟩
def t_law_r7 : B := (.cons (.ret (.and (.call 3 (.cons (.call 2 .nil []) .nil) []) (.op .isN (.cons (.call 4 (.cons (.v 1) .nil) []) (.cons (.k (.bool true)) .nil))))) .nil)
@[simp] theorem x_law_r7 (c : Cg) (ρ : En.Env) : execB c t_law_r7 ρ = (exec c (.ret (.and (.call 3 (.cons (.call 2 .nil []) .nil) []) (.op .isN (.cons (.call 4 (.cons (.v 1) .nil) []) (.cons (.k (.bool true)) .nil))))) ρ).then (execB c .nil) := rfl
def t_law_r6 : B := (.cons (.ite (.or (.op .notN (.cons (.call 4 (.cons (.v 1) .nil) []) (.cons (.k (.bool true)) .nil))) (.op .notN (.cons (.call 4 (.cons (.v 4) .nil) []) (.cons (.k (.bool false)) .nil)))) (.cons (.ret (.k (.bool false))) .nil) .nil []) t_law_r7)
@[simp] theorem x_law_r6 (c : Cg) (ρ : En.Env) : execB c t_law_r6 ρ = (exec c (.ite (.or (.op .notN (.cons (.call 4 (.cons (.v 1) .nil) []) (.cons (.k (.bool true)) .nil))) (.op .notN (.cons (.call 4 (.cons (.v 4) .nil) []) (.cons (.k (.bool false)) .nil)))) (.cons (.ret (.k (.bool false))) .nil) .nil []) ρ).then (execB c t_law_r7) := rfl
def t_law_r5 : B := (.cons (.set (.s 4) (.call 5 (.cons (.v 1) (.cons (.op .mod (.cons (.call 1 (.cons (.v 0) (.cons (.k (.int 1)) .nil)) []) (.cons (.k (.int 16)) .nil))) (.cons (.op .mod (.cons (.call 1 (.cons (.v 0) (.cons (.k (.int 2)) .nil)) []) (.cons (.k (.int 3)) .nil))) .nil))) [])) t_law_r6)
@[simp] theorem x_law_r5 (c : Cg) (ρ : En.Env) : execB c t_law_r5 ρ = (exec c (.set (.s 4) (.call 5 (.cons (.v 1) (.cons (.op .mod (.cons (.call 1 (.cons (.v 0) (.cons (.k (.int 1)) .nil)) []) (.cons (.k (.int 16)) .nil))) (.cons (.op .mod (.cons (.call 1 (.cons (.v 0) (.cons (.k (.int 2)) .nil)) []) (.cons (.k (.int 3)) .nil))) .nil))) [])) ρ).then (execB c t_law_r6) := rfl
def t_law_r4 : B := (.cons (.mu .clr 2 .nil .nil) t_law_r5)
@[simp] theorem x_law_r4 (c : Cg) (ρ : En.Env) : execB c t_law_r4 ρ = (exec c (.mu .clr 2 .nil .nil) ρ).then (execB c t_law_r5) := rfl
def t_law_b0 : B := (.cons (.ite (.op .notN (.cons (.call 4 (.cons (.v 3) .nil) []) (.cons (.k (.bool true)) .nil))) (.cons (.ret (.k (.bool false))) .nil) .nil []) .nil)
def t_law_r3 : B := (.cons (.forO 2 (.s 3) t_law_b0 [3]) t_law_r4)
@[simp] theorem x_law_r3 (c : Cg) (ρ : En.Env) : execB c t_law_r3 ρ = (exec c (.forO 2 (.s 3) t_law_b0 [3]) ρ).then (execB c t_law_r4) := rfl
def t_law_r2 : B := (.cons (.ite (.or (.not (.call 3 (.cons (.v 2) .nil) [])) (.op (.inn true) (.cons (.v 1) (.cons (.v 2) .nil)))) (.cons (.ret (.k (.bool false))) .nil) .nil []) t_law_r3)
@[simp] theorem x_law_r2 (c : Cg) (ρ : En.Env) : execB c t_law_r2 ρ = (exec c (.ite (.or (.not (.call 3 (.cons (.v 2) .nil) [])) (.op (.inn true) (.cons (.v 1) (.cons (.v 2) .nil)))) (.cons (.ret (.k (.bool false))) .nil) .nil []) ρ).then (execB c t_law_r3) := rfl
def t_law_r1 : B := (.cons (.set (.s 2) (.call 2 .nil [])) t_law_r2)
@[simp] theorem x_law_r1 (c : Cg) (ρ : En.Env) : execB c t_law_r1 ρ = (exec c (.set (.s 2) (.call 2 .nil [])) ρ).then (execB c t_law_r2) := rfl
def t_law : B := (.cons (.set (.s 1) (.call 0 (.cons (.call 1 (.cons (.v 0) (.cons (.k (.int 0)) .nil)) []) .nil) [])) t_law_r1)
def fi_law : FI := ⟨["_law_script", "_law_turn_here", "_law_found", "_law_one", "_law_odd_here"], [("_law_turn", [.I], .I, [[]]), ("_law_cell_at", [(.N .f .I), .I], .I, [[]]), ("all_turns", [], (.N .o .I), [[]]), ("_law_turns_right", [(.N .f .I)], .I, [[]]), ("is_turn", [(.N .f .I)], .I, [[]]), ("_law_odd", [.I, .I, .I], (.N .r .I), [[]])], [], XT.none, none, []⟩
def f_law : En.Fun := runB ⟨[f__law_turn, f__law_cell_at, f_all_turns, f__law_turns_right, f_is_turn, f__law_odd], [], []⟩ t_law 5
theorem ck_law : okDef fi_law [(.N .f .I)] .I t_law (topS 18) = true := by decide +kernel
theorem sc_law : FnScope ["_law_script", "_law_turn_here", "_law_found", "_law_one", "_law_odd_here"] ["_law_script"] (defScope (topS 18)) := ⟨rfl, rfl, rfl, by decide +kernel, rfl, by decide +kernel, by decide +kernel⟩
end K02

set_option Elab.async false
set_option linter.all false
set_option autoImplicit false
set_option maxRecDepth 100000
namespace En
open PySem
/-! ## spots, sorted lists of spots, dicts by spots -/
abbrev P := Int × Int × Int
def t (p : P) : D := T3 p.1 p.2.1 p.2.2
theorem t_mk (a b c : Int) : t (a, b, c) = T3 a b c := rfl
theorem t_inj {p q : P} (h : t p = t q) : p = q := by
  obtain ⟨a, b, c⟩ := p
  obtain ⟨d, e, f⟩ := q
  simp only [t, T3, PyData.tuple.injEq, List.cons.injEq, PyData.int.injEq, and_true] at h
  obtain ⟨rfl, rfl, rfl⟩ := h
  rfl
theorem eqv_T3 (a b c d e f : Int) : PyData.eqv (T3 a b c) (T3 d e f) = decide ((a, b, c) = ((d, e, f) : P)) := by
  show ((a == d) && ((b == e) && ((c == f) && true))) = _
  by_cases h1 : a = d <;> by_cases h2 : b = e <;> by_cases h3 : c = f <;> simp [h1, h2, h3]
theorem eqv_t (p q : P) : PyData.eqv (t p) (t q) = decide (p = q) := eqv_T3 _ _ _ _ _ _
theorem keyT_t (p : P) : keyT (t p) = true := rfl
theorem shp_t (p : P) : shp (t p) = true := rfl
theorem depth_ts : ∀ (L : List P), PyData.depthAll (L.map t) ≤ 1
  | [] => by simp [PyData.depthAll]
  | p :: L => by
    have := depth_ts L
    simp only [List.map_cons, PyData.depthAll, t, T3, PyData.depth]
    omega
theorem lay_ts (L : List P) : PyData.canLay0 (.list (L.map t)) = true := by
  show PyData.canLayAll0 (L.map t) = true
  refine canLay_list fun d hd => ?_
  obtain ⟨p, _, rfl⟩ := List.mem_map.1 hd
  rfl
theorem shp_ts (L : List P) : shp (.list (L.map t)) = true := by
  show (PyData.canLay0 (.list (L.map t)) && decide (PyData.depth (.list (L.map t)) ≤ 64)) = true
  have := depth_ts L
  rw [lay_ts L, decide_eq_true (by simp only [PyData.depth]; omega)]
  rfl
theorem eqvAll_ts : ∀ (L M : List P), PyData.eqvAll (L.map t) (M.map t) = decide (L = M)
  | [], [] => rfl
  | [], _ :: _ => rfl
  | _ :: _, [] => rfl
  | p :: L, q :: M => by
    show (PyData.eqv (t p) (t q) && PyData.eqvAll (L.map t) (M.map t)) = _
    rw [eqv_t, eqvAll_ts L M]
    by_cases h : p = q <;> by_cases h' : L = M <;> simp [h, h']
theorem eqv_ts (L M : List P) : PyData.eqv (.list (L.map t)) (.list (M.map t)) = decide (L = M) := eqvAll_ts L M
theorem opv_eqTs (L M : List P) : opv .eq [.list (L.map t), .list (M.map t)] = some (.bool (decide (L = M))) := by
  rw [opv_eq (shp_ts L) (shp_ts M), eqv_ts]
theorem opv_neTs (L M : List P) : opv .ne [.list (L.map t), .list (M.map t)] = some (.bool (!decide (L = M))) := by
  rw [opv_ne (shp_ts L) (shp_ts M), eqv_ts]
theorem any_t (L : List P) (p : P) : ((L.map t).any fun z => PyData.eqv z (t p)) = decide (p ∈ L) := by
  induction L with
  | nil => rfl
  | cons q L ih =>
    rw [List.map_cons, List.any_cons, ih, eqv_t]
    by_cases h : q = p
    · subst h; simp
    · have h' : ¬ p = q := fun e => h e.symm
      by_cases h2 : p ∈ L <;> simp [h, h', h2]
theorem opv_innT (neg : Bool) (L : List P) (p : P) : opv (.inn neg) [t p, .list (L.map t)] = some (.bool (neg ^^ decide (p ∈ L))) := by
  have e : opv (.inn neg) [t p, .list (L.map t)] = if shp (t p) && shp (.list (L.map t)) then some (.bool (neg ^^ (L.map t).any fun z => PyData.eqv z (t p))) else none := rfl
  rw [e, shp_ts, shp_t, any_t]
  rfl
/-! ### sorting -/
def leP (p q : P) : Bool := W.dataLe false id (t p) (t q)
def srt (L : List P) : List P := L.mergeSort leP
theorem leP_total : W.TotalLe leP := W.sortLe_total (PyProof.Rows.listOrd PyProof.Rows.itemOrd) false (fun p : P => W.keyToks (t p))
theorem toks_inj {p q : P} (h : W.keyToks (t p) = W.keyToks (t q)) : p = q := by
  obtain ⟨a, b, c⟩ := p
  obtain ⟨d, e, f⟩ := q
  have h' : ([.inl 1, .inl a, .inl 1, .inl b, .inl 1, .inl c, .inl 0] : List (Int ⊕ List Nat)) = [.inl 1, .inl d, .inl 1, .inl e, .inl 1, .inl f, .inl 0] := h
  simp only [List.cons.injEq, Sum.inl.injEq, and_true, true_and] at h'
  obtain ⟨rfl, rfl, rfl⟩ := h'
  rfl
theorem leP_anti {p q : P} (h1 : leP p q = true) (h2 : leP q p = true) : p = q := by
  apply toks_inj
  have a : (!(PyProof.Rows.listOrd PyProof.Rows.itemOrd).blt (W.keyToks (t q)) (W.keyToks (t p))) = true := h1
  have b : (!(PyProof.Rows.listOrd PyProof.Rows.itemOrd).blt (W.keyToks (t p)) (W.keyToks (t q))) = true := h2
  rw [Bool.not_eq_true'] at a b
  exact (PyProof.Rows.listOrd PyProof.Rows.itemOrd).total _ _ b a
theorem srt_perm (L : List P) : (srt L).Perm L := List.mergeSort_perm _ _
theorem srt_sorted (L : List P) : (srt L).Pairwise fun a b => leP a b = true := List.pairwise_mergeSort leP_total.trans (fun a b => by rcases leP_total.total a b with h | h <;> simp [h]) L
theorem srt_eq {L M : List P} (h : L.Perm M) : srt L = srt M :=
  List.Perm.eq_of_pairwise (fun a b _ _ h1 h2 => leP_anti h1 h2) (srt_sorted L) (srt_sorted M) (((srt_perm L).trans h).trans (srt_perm M).symm)
theorem sort_t (L : List P) : sortD (L.map t) = (srt L).map t := (List.map_mergeSort (r := leP) (s := W.dataLe false id) (f := t) (l := L) fun a _ b _ => rfl).symm
theorem mem_srt {L : List P} {p : P} : p ∈ srt L ↔ p ∈ L := (srt_perm L).mem_iff
theorem srtOk_t (L : List P) : srtOk (L.map t) = true := by
  unfold srtOk allAlike
  simp only [Bool.and_eq_true, List.all_eq_true, Bool.or_eq_true, decide_eq_true_eq]
  refine ⟨⟨fun a ha b hb => ?_, .inl fun a ha => ?_⟩, fun a ha => ?_⟩
  · obtain ⟨p, _, rfl⟩ := List.mem_map.1 ha
    obtain ⟨q, _, rfl⟩ := List.mem_map.1 hb
    rfl
  · obtain ⟨p, _, rfl⟩ := List.mem_map.1 ha
    rfl
  · obtain ⟨p, _, rfl⟩ := List.mem_map.1 ha
    simp [t, T3, PyData.depth, PyData.depthAll]
theorem opv_srtT (L : List P) : opv .srt [.list (L.map t)] = some (.list ((srt L).map t)) := by
  rw [opv_srt (srtOk_t L), sort_t]
/-- a sorted list is told by its members, each once -/
theorem srt_ext {L M : List P} (hL : L.Nodup) (hM : M.Nodup) (h : ∀ p, p ∈ L ↔ p ∈ M) : srt L = srt M := srt_eq ((List.perm_ext_iff_of_nodup hL hM).2 h)
/-! ### dicts -/
section
variable {α β : Type} [DecidableEq α] {enc : α → D} {vnc : β → D}
def dct (enc : α → D) (vnc : β → D) (A : List (α × β)) : D := .dict (A.map fun p => (enc p.1, vnc p.2))
def look (A : List (α × β)) (a : α) : Option β := (A.find? fun p => decide (p.1 = a)).map (·.2)
def put : List (α × β) → α → β → List (α × β)
  | [], a, b => [(a, b)]
  | p :: A, a, b => if p.1 = a then (p.1, b) :: A else p :: put A a b
theorem dlook_dct (h : ∀ a b, PyData.eqv (enc a) (enc b) = decide (a = b)) (A : List (α × β)) (a : α) : dlook (A.map fun p => (enc p.1, vnc p.2)) (enc a) = (look A a).map vnc := by
  induction A with
  | nil => rfl
  | cons p A ih =>
    unfold dlook look at *
    rw [List.map_cons, List.find?_cons, List.find?_cons, h]
    by_cases e : p.1 = a
    · simp [e]
    · simp only [decide_eq_false e]
      exact ih
theorem dput_dct (h : ∀ a b, PyData.eqv (enc a) (enc b) = decide (a = b)) (A : List (α × β)) (a : α) (b : β) : dput (A.map fun p => (enc p.1, vnc p.2)) (enc a) (vnc b) = (put A a b).map fun p => (enc p.1, vnc p.2) := by
  induction A with
  | nil => rfl
  | cons p A ih =>
    rw [List.map_cons]
    unfold dput put
    rw [h]
    by_cases e : p.1 = a
    · simp [e]
    · simp [e, ih]
theorem kyOk_dct (h : ∀ a, keyT (enc a) = true) (A : List (α × β)) (a : α) : kyOk (A.map fun p => (enc p.1, vnc p.2)) (enc a) = true := by
  unfold kyOk
  have : ((A.map fun p => (enc p.1, vnc p.2)).all fun p => keyT p.1) = true := by
    rw [List.all_eq_true]
    intro p hp
    obtain ⟨q, _, rfl⟩ := List.mem_map.1 hp
    exact h q.1
  rw [this, h]
  simp
theorem look_put (A : List (α × β)) (a c : α) (b : β) : look (put A a b) c = if a = c then some b else look A c := by
  induction A with
  | nil =>
    by_cases e : a = c
    · simp [put, look, e]
    · simp [put, look, e]
  | cons p A ih =>
    by_cases h1 : p.1 = a
    · have e : put (p :: A) a b = (p.1, b) :: A := by rw [put, if_pos h1]
      rw [e]
      by_cases h2 : a = c
      · simp [look, h1, h2]
      · have : ¬ p.1 = c := fun e => h2 (h1 ▸ e)
        simp [look, h2, this]
    · have e : put (p :: A) a b = p :: put A a b := by rw [put, if_neg h1]
      rw [e]
      by_cases h2 : p.1 = c
      · have : ¬ a = c := fun e => h1 (h2.trans e.symm)
        simp [look, h2, this]
      · have q : ∀ B : List (α × β), look (p :: B) c = look B c := fun B => by simp [look, h2]
        rw [q, q, ih]
theorem put_keys (A : List (α × β)) (a : α) (b : β) : (put A a b).map (·.1) = if a ∈ A.map (·.1) then A.map (·.1) else A.map (·.1) ++ [a] := by
  induction A with
  | nil => rfl
  | cons p A ih =>
    by_cases h1 : p.1 = a
    · have e : put (p :: A) a b = (p.1, b) :: A := by rw [put, if_pos h1]
      rw [e, if_pos (by simp [h1])]
      rfl
    · have e : put (p :: A) a b = p :: put A a b := by rw [put, if_neg h1]
      have h1' : ¬ a = p.1 := fun e => h1 e.symm
      rw [e, List.map_cons, ih]
      by_cases h2 : a ∈ A.map (·.1)
      · rw [if_pos h2, if_pos (by rw [List.map_cons]; exact List.mem_cons_of_mem _ h2)]
        rfl
      · rw [if_neg h2, if_neg (by rw [List.map_cons, List.mem_cons, not_or]; exact ⟨h1', h2⟩)]
        rfl
theorem put_len (A : List (α × β)) (a : α) (b : β) : (put A a b).length ≤ A.length + 1 := by
  have := congrArg List.length (put_keys A a b)
  rw [List.length_map] at this
  split at this <;> simp at this <;> omega
theorem put_nodup {A : List (α × β)} {a : α} {b : β} (h : (A.map (·.1)).Nodup) : ((put A a b).map (·.1)).Nodup := by
  rw [put_keys]
  split
  · exact h
  · rename_i hn
    exact List.nodup_append.2 ⟨h, by simp, fun x hx y hy e => hn (by rw [List.mem_singleton] at hy; rw [← hy, ← e]; exact hx)⟩
theorem look_mem {A : List (α × β)} (h : (A.map (·.1)).Nodup) {a : α} {b : β} : look A a = some b ↔ (a, b) ∈ A := by
  induction A with
  | nil => simp [look]
  | cons p A ih =>
    rw [List.map_cons, List.nodup_cons] at h
    by_cases e : p.1 = a
    · have : look (p :: A) a = some p.2 := by simp [look, e]
      rw [this]
      constructor
      · intro q
        cases q
        rw [← e]
        exact List.mem_cons_self
      · intro q
        rcases List.mem_cons.1 q with q | q
        · rw [← q]
        · exact absurd (List.mem_map.2 ⟨_, q, e.symm⟩) h.1
    · have : look (p :: A) a = look A a := by simp [look, e]
      rw [this, ih h.2]
      constructor
      · exact fun q => List.mem_cons_of_mem _ q
      · intro q
        rcases List.mem_cons.1 q with q | q
        · rw [← q] at e
          exact absurd rfl e
        · exact q
end
/-! ### what stands an odd number of times -/
def tog (A : List (P × Bool)) (p : P) : List (P × Bool) := put A p (!((look A p).getD false))
theorem tog_fold (L : List P) : ∀ (A : List (P × Bool)) (p : P), (look (L.foldl tog A) p).getD false = (((look A p).getD false) ^^ decide (L.count p % 2 = 1)) := by
  induction L with
  | nil => intro A p; simp
  | cons q L ih =>
    intro A p
    rw [List.foldl_cons, ih, tog, look_put, List.count_cons]
    by_cases e : q = p
    · subst e
      simp only [if_true, Option.getD_some, beq_self_eq_true]
      have : (L.count q + 1) % 2 = 1 ↔ ¬ (L.count q % 2 = 1) := by omega
      cases (look A q).getD false <;> by_cases h : L.count q % 2 = 1 <;> simp [h, this]
    · have : (q == p) = false := by simpa using e
      simp [e, this]
theorem tog_nodup (L : List P) : ∀ A : List (P × Bool), (A.map (·.1)).Nodup → ((L.foldl tog A).map (·.1)).Nodup := by
  induction L with
  | nil => exact fun A h => h
  | cons q L ih => exact fun A h => ih _ (put_nodup h)
theorem tog_len (L : List P) : ∀ A : List (P × Bool), (L.foldl tog A).length ≤ A.length + L.length := by
  induction L with
  | nil => intro A; simp
  | cons q L ih =>
    intro A
    have := ih (tog A q)
    have h2 : (tog A q).length ≤ A.length + 1 := put_len _ _ _
    rw [List.foldl_cons, List.length_cons]
    omega
/-- the odd ones, in the order in which they came -/
def oddL (L : List P) : List P := ((L.foldl tog []).filter (·.2)).map (·.1)
theorem filter_nodup {A : List (P × Bool)} (h : (A.map (·.1)).Nodup) : ((A.filter (·.2)).map (·.1)).Nodup := List.Nodup.sublist (List.Sublist.map _ List.filter_sublist) h
theorem oddL_nodup (L : List P) : (oddL L).Nodup := filter_nodup (tog_nodup L [] List.nodup_nil)
theorem mem_oddL {L : List P} {p : P} : p ∈ oddL L ↔ L.count p % 2 = 1 := by
  unfold oddL
  have h := tog_fold L [] p
  have hn := tog_nodup L [] List.nodup_nil
  have h0 : (look ([] : List (P × Bool)) p).getD false = false := rfl
  rw [h0, Bool.false_xor] at h
  constructor
  · intro hp
    obtain ⟨⟨q, b⟩, hq, rfl⟩ := List.mem_map.1 hp
    obtain ⟨h1, h2⟩ := List.mem_filter.1 hq
    have : look (L.foldl tog []) q = some b := (look_mem hn).2 h1
    rw [this] at h
    have hb : b = true := h2
    rw [hb] at h
    simpa using h.symm
  · intro hc
    rw [decide_eq_true hc] at h
    cases e : look (L.foldl tog []) p with
    | none => rw [e] at h; cases h
    | some b =>
      rw [e] at h
      have hb : b = true := h
      subst hb
      exact List.mem_map.2 ⟨(p, true), List.mem_filter.2 ⟨(look_mem hn).1 e, rfl⟩, rfl⟩
end En

set_option Elab.async false
set_option linter.all false
set_option autoImplicit false
set_option maxRecDepth 100000
namespace En
open PySem
/-! ## loops by an invariant; list's parts -/
theorem forX_inv {b : Env → Fl} {tg : Tg} {cl : List Nat} (I : Nat → Env → Prop) : ∀ (ds : List D) (k : Nat) (ρ : Env), I k ρ → (∀ (j : Nat) (d : D) (ρ : Env), ds[j]? = some d → I (k + j) ρ → ∃ ρ1 ρ2, setTg tg d ρ = some ρ1 ∧ b ρ1 = .nx ρ2 ∧ I (k + j + 1) (clear cl ρ2)) →
    ∃ ρ', forX b tg cl ds ρ = .nx ρ' ∧ I (k + ds.length) ρ'
  | [], k, ρ, h, _ => ⟨ρ, rfl, h⟩
  | d :: ds, k, ρ, h, st => by
    obtain ⟨ρ1, ρ2, h1, h2, h3⟩ := st 0 d ρ rfl h
    obtain ⟨ρ', q1, q2⟩ := forX_inv I ds (k + 1) (clear cl ρ2) h3 fun j d ρ hj hI => by
      have := st (j + 1) d ρ (by simpa using hj) (by rw [show k + (j + 1) = k + 1 + j by omega]; exact hI)
      rwa [show k + (j + 1) = k + 1 + j by omega] at this
    refine ⟨ρ', ?_, by rw [List.length_cons, show k + (ds.length + 1) = k + 1 + ds.length by omega]; exact q2⟩
    rw [forX_cons, h1, Res.of_some, Res.fl_ok, h2, loopK_nx, q1]
/-- a loop over encoded things, the list that it makes -/
theorem forX_map {α A : Type} (enc : α → D) (step : A → α → A) (env : A → Env) {b : Env → Fl} {tg : Tg} {cl : List Nat} : ∀ (xs : List α) (a : A), (∀ a x, x ∈ xs → ∃ ρ1 ρ2, setTg tg (enc x) (env a) = some ρ1 ∧ b ρ1 = .nx ρ2 ∧ clear cl ρ2 = env (step a x)) →
    forX b tg cl (xs.map enc) (env a) = .nx (env (xs.foldl step a))
  | [], a, _ => rfl
  | x :: xs, a, h => by
    obtain ⟨ρ1, ρ2, h1, h2, h3⟩ := h a x List.mem_cons_self
    rw [List.map_cons, forX_cons, h1, Res.of_some, Res.fl_ok, h2, loopK_nx, h3]
    exact forX_map enc step env xs (step a x) fun a y hy => h a y (List.mem_cons_of_mem _ hy)
theorem lcD_map' {α : Type} {enc : α → D} {f : D → Res (Option D)} {g : α → D} : ∀ (xs : List α), (∀ x, x ∈ xs → f (enc x) = .ok (some (g x))) → lcD f (xs.map enc) = .ok (xs.map g)
  | [], _ => rfl
  | x :: xs, h => by
    rw [List.map_cons, lcD_cons, h x List.mem_cons_self, lcD_map' xs fun y hy => h y (List.mem_cons_of_mem _ hy)]
    rfl
theorem lcD_filter' {α : Type} {enc : α → D} {f : D → Res (Option D)} {p : α → Bool} {g : α → D} : ∀ (xs : List α), (∀ x, x ∈ xs → f (enc x) = .ok (if p x then some (g x) else none)) → lcD f (xs.map enc) = .ok ((xs.filter p).map g)
  | [], _ => rfl
  | x :: xs, h => by
    rw [List.map_cons, lcD_cons, h x List.mem_cons_self, lcD_filter' xs fun y hy => h y (List.mem_cons_of_mem _ hy), List.filter_cons]
    cases p x <;> rfl
theorem atI_lt {α : Type} {xs : List α} {k : Int} (h0 : 0 ≤ k) (h : k < xs.length) : atI xs k = some (xs[k.toNat]'(by omega)) := by
  have := atI_nat xs k.toNat (by omega)
  rwa [show ((k.toNat : Nat) : Int) = k by omega] at this
theorem ixL_t {L : List P} {k : Int} (h0 : 0 ≤ k) (h : k < L.length) : opv .ixL [.list (L.map t), .int k] = some (t (L[k.toNat]'(by omega))) := by
  rw [opv_ixL, atI_lt h0 (by simpa using h)]
  simp
theorem cut_to {α : Type} {xs : List α} {k : Int} (h0 : 0 ≤ k) (h : k ≤ xs.length) : cutD xs none (some k) = xs.take k.toNat := by
  unfold cutD sIx
  have e : HT.sIx xs.length xs.length (some k) = k.toNat := by
    have := HT.sIx_nat xs.length xs.length k.toNat
    rw [show ((k.toNat : Nat) : Int) = k by omega] at this
    rw [this]
    omega
  rw [e, show HT.sIx xs.length 0 none = 0 from rfl]
  simp
theorem cut_from {α : Type} {xs : List α} {k : Int} (h0 : 0 ≤ k) (h : k ≤ xs.length) : cutD xs (some k) none = xs.drop k.toNat := by
  unfold cutD sIx
  have e : HT.sIx xs.length 0 (some k) = k.toNat := by
    have := HT.sIx_nat xs.length 0 k.toNat
    rw [show ((k.toNat : Nat) : Int) = k by omega] at this
    rw [this]
    omega
  rw [e, show HT.sIx xs.length xs.length none = xs.length from rfl, List.take_of_length_le (by simp)]
theorem cut_both {α : Type} {xs : List α} {a b : Nat} : cutD xs (some (a : Int)) (some (b : Int)) = (xs.drop a).take (b - a) := by
  unfold cutD sIx
  rw [HT.sIx_nat, HT.sIx_nat]
  rcases Nat.le_total a xs.length with h1 | h1
  · rw [Nat.min_eq_left h1]
    rcases Nat.le_total b xs.length with h2 | h2
    · rw [Nat.min_eq_left h2]
    · rw [Nat.min_eq_right h2, List.take_of_length_le (by simp), List.take_of_length_le (by simp; omega)]
  · rw [Nat.min_eq_right h1, List.drop_eq_nil_of_le (Nat.le_refl xs.length), List.drop_eq_nil_of_le h1]
    simp
theorem opv_slL2 {xs : List D} {k : Int} : opv (.slL false true) [.list xs, .int k] = some (.list (cutD xs none (some k))) := rfl
theorem opv_slL1 {xs : List D} {k : Int} : opv (.slL true false) [.list xs, .int k] = some (.list (cutD xs (some k) none)) := rfl
theorem opv_catL {xs ys : List D} (h : xs.length + ys.length ≤ sizeLine) : opv .catL [.list xs, .list ys] = some (.list (xs ++ ys)) := if_pos h
theorem muv_appL {xs : List D} {y : D} (h : xs.length < sizeLine) : muv .app [y] (.list xs) = some (.list (xs ++ [y])) := if_pos h
theorem muv_extL {xs ys : List D} (h : xs.length + ys.length ≤ sizeLine) : muv .ext [.list ys] (.list xs) = some (.list (xs ++ ys)) := if_pos h
theorem small_line {n : Nat} (h : n ≤ 1000000) : n < sizeLine := by unfold sizeLine; omega
theorem popv_at {xs : List D} {k : Int} (h0 : 0 ≤ k) (h : k < xs.length) (hs : xs.length ≤ 1000000) : popv [.int k] (.list xs) = some (xs[k.toNat]'(by omega), .list (xs.eraseIdx k.toNat)) := by
  show (if -(2 ^ 63) ≤ k ∧ k < 2 ^ 63 then (ixN xs.length k).bind fun j => (xs[j]?).map fun y => (y, PyData.list (xs.eraseIdx j)) else none) = _
  rw [if_pos ⟨by omega, by omega⟩]
  have e : ixN xs.length k = some k.toNat := by
    show L2.ixN xs.length k = _
    unfold L2.ixN
    rw [if_pos h0, if_pos h]
  rw [e, Option.bind_some, List.getElem?_eq_getElem (by omega)]
  rfl
@[simp] theorem exec_popAt (c : Cg) (j i : Nat) (es : Es) (ρ : Env) : exec c (.popAt j i es) ρ = if isKd .list (ρ.getD i .none) then (evs c es ρ).fl fun ds => (Res.of (popv ds (ρ.getD i .none))).fl fun p => .nx ((ρ.set i p.2).set j p.1) else .bad := rfl
@[simp] theorem exec_popX (c : Cg) (i : Nat) (es : Es) (ρ : Env) : exec c (.popX i es) ρ = if isKd .list (ρ.getD i .none) then (evs c es ρ).fl fun ds => (Res.of (popv ds (ρ.getD i .none))).fl fun p => .nx (ρ.set i p.2) else .bad := rfl
@[simp] theorem exec_dsub0 (c : Cg) (i : Nat) (ix e : E) (ρ : Env) : exec c (.dsub i .nil ix e) ρ = (ev c e ρ).fl fun y => if isKd .dict (ρ.getD i .none) then (ev c ix ρ).fl fun k => (Res.of (subv k y (ρ.getD i .none))).fl fun d => .nx (ρ.set i d) else .bad := rfl
@[simp] theorem ev_meth (c : Cg) (k : Kd) (o : Op) (e : E) (es : Es) (ρ : Env) : ev c (.meth k o e es) ρ = (ev c e ρ).bind fun d => if isKd k d then (evs c es ρ).bind fun ds => .of (opv o (d :: ds)) else .bad := rfl
@[simp] theorem ev_lcR (c : Cg) (it : Bool) (i : Nat) (tg : Tg) (cond el : E) (ρ : Env) : ev c (.lcR it i tg cond el) ρ = (rowsD it (ρ.getD i .none)).bind fun ds => (lcD (fun d => (Res.of (setTg tg d ρ)).bind fun ρ' => ((ev c cond ρ').bind toB).noex.bind fun x => if x then (ev c el ρ').noex.map some else .ok none) ds).map .list := rfl
@[simp] theorem exec_forR (c : Cg) (it : Bool) (i : Nat) (tg : Tg) (b : B) (cl : List Nat) (ρ : Env) : exec c (.forR it i tg b cl) ρ = ((rowsD it (ρ.getD i .none)).fl fun ds => forX (execB c b) tg cl ds (clear cl ρ)).noex := rfl
@[simp] theorem isKd_dictD (xs : List (D × D)) : isKd .dict (.dict xs) = true := rfl
@[simp] theorem ev_sl2 (c : Cg) (t : Bool) (a b e : E) (ρ : Env) : ev c (.sl2 t a b e) ρ = (ev c a ρ).bind fun x => (ev c b ρ).bind fun y => (toI y).bind fun i => (ev c e ρ).bind fun w => (toI w).bind fun j => match t, x with
      | false, .list xs => .ok (.list (cutD xs (some i) (some j)))
      | true, .tuple xs => .ok (.tuple (cutD xs (some i) (some j)))
      | _, _ => .bad := rfl
@[simp] theorem ev_chain (c : Cg) (o o' : Op) (a b e : E) (ρ : Env) : ev c (.chain o o' a b e) ρ = (ev c a ρ).bind fun x => (ev c b ρ).bind fun y => (Res.of (opv o [x, y])).bind fun z => (toB z).bind fun t =>
      if t then (ev c e ρ).bind fun w => .of (opv o' [y, w]) else .ok (.bool false) := rfl
@[simp] theorem subv3_0 (a b c y : D) : subv (.int 0) y (.list [a, b, c]) = some (.list [y, b, c]) := rfl
@[simp] theorem subv3_1 (a b c y : D) : subv (.int 1) y (.list [a, b, c]) = some (.list [a, y, c]) := rfl
@[simp] theorem subv3_2 (a b c y : D) : subv (.int 2) y (.list [a, b, c]) = some (.list [a, b, y]) := rfl
theorem rgA1 : -(2 ^ 62) ≤ (0:Int) := by decide
theorem rgA2 : (0:Int) < 2 ^ 62 := by decide
theorem rgA3 {n : Nat} (h : n ≤ 1000000) : -(2 ^ 62) ≤ (n:Int) := by omega
theorem rgA4 {n : Nat} (h : n ≤ 1000000) : (n:Int) < 2 ^ 62 := by omega
theorem rgA5 : (1:Int) ≠ 0 := by decide
theorem rgA6 : (1:Int).natAbs < 1000000 := by decide
theorem rgA7 {n : Nat} (h : n ≤ 1000000) : n ≤ 2 ^ 24 := by omega
theorem rgN1 (n : Nat) : rgN 0 n 1 = n := by
  unfold rgN Builtin.Range.rangeSize
  simp
  omega
theorem rgOk1 {n : Nat} (h : n ≤ 1000000) : rgOk 0 n 1 = true := by
  have e := rgN1 n
  have h1 := rgA3 h
  have h2 := rgA4 h
  have h7 := rgA7 h
  unfold rgOk
  rw [e, decide_eq_true rgA1, decide_eq_true rgA2, decide_eq_true h1, decide_eq_true h2, decide_eq_true rgA5, decide_eq_true rgA6, decide_eq_true h7]
  decide
theorem rg1 (n : Nat) : rangeD 0 n 1 = (List.range n).map fun i => .int (i : Nat) := by
  unfold rangeD
  rw [rgN1]
  simp
@[simp] theorem ev_callk (c : Cg) (j : Nat) (es : Es) (k : Kt) (ks : List Kt) (ρ : Env) : ev c (.call j es (k :: ks)) ρ = (evs c es ρ).bind fun ds => callD c.fs j (ds ++ (k :: ks).map Kt.d) := rfl
@[simp] theorem muv_clrL (xs : List D) : muv .clr [] (.list xs) = some (.list []) := rfl
/-- never by simp: whnf of `rgOk` at a symbolic length goes deep in the kernel -/
theorem evI_rngN {c : Cg} {es : Es} {ρ : Env} {n : Int} (h : evs c es ρ = .ok [.int n]) (ok : rgOk 0 n 1 = true) : evI c (.rng es) ρ = .ok (rangeD 0 n 1) := by
  have e : evI c (.rng es) ρ = (evs c es ρ).bind fun ds => match ds with
    | [.int b] => if rgOk 0 b 1 then .ok (rangeD 0 b 1) else .bad
    | [.int a, .int b] => if rgOk a b 1 then .ok (rangeD a b 1) else .bad
    | [.int a, .int b, .int s] => if rgOk a b s then .ok (rangeD a b s) else .bad
    | _ => .bad := by
    simp only [evI] <;> rfl
  rw [e, h]
  exact if_pos ok
end En

set_option Elab.async false
set_option linter.all false
set_option autoImplicit false
set_option maxRecDepth 100000
namespace En
open PySem
/-! ## codes: things as data, order, sorted lists, places; cells, pairs of cells -/
theorem lexLt_cons (a b : Int ⊕ List Nat) (as bs : List (Int ⊕ List Nat)) : PyProof.Rows.lexLt PyProof.Rows.itemOrd (a :: as) (b :: bs) = (PyProof.Rows.itemLt a b || (!PyProof.Rows.itemLt b a && PyProof.Rows.lexLt PyProof.Rows.itemOrd as bs)) := rfl
theorem itemLt_i (a b : Int) : PyProof.Rows.itemLt (.inl a) (.inl b) = decide (a < b) := rfl
theorem lexLt_nil : PyProof.Rows.lexLt PyProof.Rows.itemOrd [] [] = false := rfl
theorem le_lt (a b : D) : W.dataLe false id a b = !W.dataLt b a := rfl
structure Cod {α : Type} [DecidableEq α] (enc : α → D) : Prop where
  eqv : ∀ a b, PyData.eqv (enc a) (enc b) = decide (a = b)
  lay : ∀ a, (enc a).canLay0 = true
  dep : ∀ a, (enc a).depth ≤ 8
  key : ∀ a, keyT (enc a) = true
  hd : ∀ a, tupHd (enc a) = true
  alk : ∀ a b, W.alike (enc a) (enc b) = true
  tok : ∀ a b, W.keyToks (enc a) = W.keyToks (enc b) → a = b
abbrev C2 := Int × Int
abbrev T2 (a b : Int) : D := .tuple [.int a, .int b]
def e2 (p : C2) : D := T2 p.1 p.2
def e4 (p : C2 × C2) : D := .tuple [e2 p.1, e2 p.2]
theorem e2_mk (a b : Int) : e2 (a, b) = T2 a b := rfl
theorem e4_mk (a b : C2) : e4 (a, b) = .tuple [e2 a, e2 b] := rfl
theorem eqv_e2 (p q : C2) : PyData.eqv (e2 p) (e2 q) = decide (p = q) := by
  obtain ⟨a, b⟩ := p
  obtain ⟨d, e⟩ := q
  show ((a == d) && ((b == e) && true)) = _
  by_cases h1 : a = d <;> by_cases h2 : b = e <;> simp [h1, h2]
theorem cod2 : Cod e2 where
  eqv := eqv_e2
  lay := fun _ => rfl
  dep := fun _ => by simp [e2, PyData.depth, PyData.depthAll]
  key := fun _ => rfl
  hd := fun _ => rfl
  alk := fun _ _ => rfl
  tok := fun p q h => by
    obtain ⟨a, b⟩ := p
    obtain ⟨d, e⟩ := q
    have h' : ([.inl 1, .inl a, .inl 1, .inl b, .inl 0] : List (Int ⊕ List Nat)) = [.inl 1, .inl d, .inl 1, .inl e, .inl 0] := h
    simp only [List.cons.injEq, Sum.inl.injEq, and_true, true_and] at h'
    obtain ⟨rfl, rfl⟩ := h'
    rfl
theorem cod4 : Cod e4 where
  eqv := fun p q => by
    obtain ⟨a, b⟩ := p
    obtain ⟨d, e⟩ := q
    show ((PyData.eqv (e2 a) (e2 d)) && ((PyData.eqv (e2 b) (e2 e)) && true)) = _
    rw [eqv_e2, eqv_e2]
    by_cases h1 : a = d <;> by_cases h2 : b = e <;> simp [h1, h2]
  lay := fun _ => rfl
  dep := fun _ => by simp [e4, e2, PyData.depth, PyData.depthAll]
  key := fun _ => rfl
  hd := fun _ => rfl
  alk := fun _ _ => rfl
  tok := fun p q h => by
    obtain ⟨⟨a, b⟩, a', b'⟩ := p
    obtain ⟨⟨d, e⟩, d', e'⟩ := q
    have h' : ([.inl 1, .inl 1, .inl a, .inl 1, .inl b, .inl 0, .inl 1, .inl 1, .inl a', .inl 1, .inl b', .inl 0, .inl 0] : List (Int ⊕ List Nat)) = [.inl 1, .inl 1, .inl d, .inl 1, .inl e, .inl 0, .inl 1, .inl 1, .inl d', .inl 1, .inl e', .inl 0, .inl 0] := h
    simp only [List.cons.injEq, Sum.inl.injEq, and_true, true_and] at h'
    obtain ⟨rfl, rfl, rfl, rfl⟩ := h'
    rfl
theorem cod3 : Cod t where
  eqv := eqv_t
  lay := fun _ => rfl
  dep := fun _ => by simp [t, PyData.depth, PyData.depthAll]
  key := fun _ => rfl
  hd := fun _ => rfl
  alk := fun _ _ => rfl
  tok := fun _ _ h => toks_inj h
/-! ### order -/
def ltC (a b : C2) : Prop := a.1 < b.1 ∨ (a.1 = b.1 ∧ a.2 < b.2)
instance (a b : C2) : Decidable (ltC a b) := inferInstanceAs (Decidable (_ ∨ _))
theorem lt_e2 (p q : C2) : W.dataLt (e2 p) (e2 q) = decide (ltC p q) := by
  obtain ⟨a, b⟩ := p
  obtain ⟨d, e⟩ := q
  show (decide ((1:Int) < 1) || (!decide (1 < (1:Int)) && (decide (a < d) || (!decide (d < a) && (decide ((1:Int) < 1) || (!decide (1 < (1:Int)) && (decide (b < e) || (!decide (e < b) && (decide ((0:Int) < 0) || (!decide (0 < (0:Int)) && false)))))))))) = _
  rw [Bool.eq_iff_iff, decide_eq_true_iff]
  simp only [ltC, Bool.or_eq_true, Bool.and_eq_true, Bool.not_eq_true', decide_eq_true_eq, decide_eq_false_iff_not, Bool.false_eq_true, Int.lt_irrefl, not_false_eq_true, true_and, false_or, and_false, or_false]
  constructor <;> intro h <;> omega
def ltP (p q : P) : Prop := p.1 < q.1 ∨ (p.1 = q.1 ∧ (p.2.1 < q.2.1 ∨ (p.2.1 = q.2.1 ∧ p.2.2 < q.2.2)))
instance (a b : P) : Decidable (ltP a b) := inferInstanceAs (Decidable (_ ∨ _))
theorem lt_t (p q : P) : W.dataLt (t p) (t q) = decide (ltP p q) := by
  obtain ⟨a, b, c⟩ := p
  obtain ⟨d, e, f⟩ := q
  show (decide ((1:Int) < 1) || (!decide (1 < (1:Int)) && (decide (a < d) || (!decide (d < a) && (decide ((1:Int) < 1) || (!decide (1 < (1:Int)) && (decide (b < e) || (!decide (e < b) && (decide ((1:Int) < 1) || (!decide (1 < (1:Int)) && (decide (c < f) || (!decide (f < c) && (decide ((0:Int) < 0) || (!decide (0 < (0:Int)) && false)))))))))))))) = _
  rw [Bool.eq_iff_iff, decide_eq_true_iff]
  simp only [ltP, Bool.or_eq_true, Bool.and_eq_true, Bool.not_eq_true', decide_eq_true_eq, decide_eq_false_iff_not, Bool.false_eq_true, Int.lt_irrefl, not_false_eq_true, true_and, false_or, and_false, or_false]
  constructor <;> intro h <;> omega
theorem ltC_irr (a : C2) : ¬ ltC a a := by simp [ltC]
theorem ltC_asy {a b : C2} (h : ltC a b) : ¬ ltC b a := by
  simp only [ltC] at *
  omega
theorem ltC_tri (a b : C2) : ltC a b ∨ a = b ∨ ltC b a := by
  obtain ⟨a1, a2⟩ := a
  obtain ⟨b1, b2⟩ := b
  simp only [ltC, Prod.mk.injEq]
  omega
/-! ### sorting of encoded things -/
section
variable {α : Type} [DecidableEq α] {enc : α → D}
def leX (enc : α → D) (a b : α) : Bool := W.dataLe false id (enc a) (enc b)
def srtX (enc : α → D) (L : List α) : List α := L.mergeSort (leX enc)
theorem leX_total (enc : α → D) : W.TotalLe (leX enc) := W.sortLe_total (PyProof.Rows.listOrd PyProof.Rows.itemOrd) false (fun p : α => W.keyToks (enc p))
theorem leX_anti (C : Cod enc) {p q : α} (h1 : leX enc p q = true) (h2 : leX enc q p = true) : p = q := by
  apply C.tok
  have a : (!(PyProof.Rows.listOrd PyProof.Rows.itemOrd).blt (W.keyToks (enc q)) (W.keyToks (enc p))) = true := h1
  have b : (!(PyProof.Rows.listOrd PyProof.Rows.itemOrd).blt (W.keyToks (enc p)) (W.keyToks (enc q))) = true := h2
  rw [Bool.not_eq_true'] at a b
  exact (PyProof.Rows.listOrd PyProof.Rows.itemOrd).total _ _ b a
theorem srtX_perm (L : List α) : (srtX enc L).Perm L := List.mergeSort_perm _ _
theorem srtX_sorted (L : List α) : (srtX enc L).Pairwise fun a b => leX enc a b = true := List.pairwise_mergeSort (leX_total enc).trans (fun a b => by rcases (leX_total enc).total a b with h | h <;> simp [h]) L
theorem srtX_eq (C : Cod enc) {L M : List α} (h : L.Perm M) : srtX enc L = srtX enc M :=
  List.Perm.eq_of_pairwise (fun a b _ _ h1 h2 => leX_anti C h1 h2) (srtX_sorted L) (srtX_sorted M) (((srtX_perm L).trans h).trans (srtX_perm M).symm)
/-- what is sorted already -/
theorem srtX_of (C : Cod enc) {L M : List α} (h : L.Perm M) (hM : M.Pairwise fun a b => leX enc a b = true) : srtX enc L = M :=
  List.Perm.eq_of_pairwise (fun a b _ _ h1 h2 => leX_anti C h1 h2) (srtX_sorted L) hM ((srtX_perm L).trans h)
theorem sortD_map (L : List α) : sortD (L.map enc) = (srtX enc L).map enc := (List.map_mergeSort (r := leX enc) (s := W.dataLe false id) (f := enc) (l := L) fun a _ b _ => rfl).symm
theorem mem_srtX {L : List α} {p : α} : p ∈ srtX enc L ↔ p ∈ L := (srtX_perm L).mem_iff
theorem srtX_len (L : List α) : (srtX enc L).length = L.length := (srtX_perm L).length_eq
theorem srtX_nodup {L : List α} (h : L.Nodup) : (srtX enc L).Nodup := (srtX_perm L).nodup_iff.2 h
theorem srtX_ext (C : Cod enc) {L M : List α} (hL : L.Nodup) (hM : M.Nodup) (h : ∀ p, p ∈ L ↔ p ∈ M) : srtX enc L = srtX enc M := srtX_eq C ((List.perm_ext_iff_of_nodup hL hM).2 h)
theorem srtX_idem (C : Cod enc) (L : List α) : srtX enc (srtX enc L) = srtX enc L := srtX_eq C (srtX_perm L)
/-- an order-keeping map goes through -/
theorem srtX_map {β : Type} [DecidableEq β] {enc' : β → D} (f : α → β) (L : List α) (h : ∀ a ∈ L, ∀ b ∈ L, leX enc a b = leX enc' (f a) (f b)) : srtX enc' (L.map f) = (srtX enc L).map f := (List.map_mergeSort (r := leX enc) (s := leX enc') (f := f) (l := L) h).symm
theorem depX (C : Cod enc) : ∀ (L : List α), PyData.depthAll (L.map enc) ≤ 8
  | [] => by simp [PyData.depthAll]
  | p :: L => by
    have := depX C L
    have := C.dep p
    simp only [List.map_cons, PyData.depthAll]
    omega
theorem layX (C : Cod enc) (L : List α) : PyData.canLay0 (.list (L.map enc)) = true := by
  show PyData.canLayAll0 (L.map enc) = true
  refine canLay_list fun d hd => ?_
  obtain ⟨p, _, rfl⟩ := List.mem_map.1 hd
  exact C.lay p
theorem shpX1 (C : Cod enc) (a : α) : shp (enc a) = true := by
  show (PyData.canLay0 (enc a) && decide (PyData.depth (enc a) ≤ 64)) = true
  have := C.dep a
  rw [C.lay, decide_eq_true (by omega)]
  rfl
theorem shpX (C : Cod enc) (L : List α) : shp (.list (L.map enc)) = true := by
  show (PyData.canLay0 (.list (L.map enc)) && decide (PyData.depth (.list (L.map enc)) ≤ 64)) = true
  have := depX C L
  rw [layX C L, decide_eq_true (by simp only [PyData.depth]; omega)]
  rfl
theorem srtOkX (C : Cod enc) (L : List α) : srtOk (L.map enc) = true := by
  unfold srtOk allAlike
  simp only [Bool.and_eq_true, List.all_eq_true, Bool.or_eq_true, decide_eq_true_eq]
  refine ⟨⟨fun a ha b hb => ?_, .inl fun a ha => ?_⟩, fun a ha => ?_⟩
  · obtain ⟨p, _, rfl⟩ := List.mem_map.1 ha
    obtain ⟨q, _, rfl⟩ := List.mem_map.1 hb
    exact C.alk p q
  · obtain ⟨p, _, rfl⟩ := List.mem_map.1 ha
    exact C.hd p
  · obtain ⟨p, _, rfl⟩ := List.mem_map.1 ha
    have := C.dep p
    omega
theorem opv_srtX (C : Cod enc) (L : List α) : opv .srt [.list (L.map enc)] = some (.list ((srtX enc L).map enc)) := by
  rw [opv_srt (srtOkX C L), sortD_map]
theorem eqvAllX (C : Cod enc) : ∀ (L M : List α), PyData.eqvAll (L.map enc) (M.map enc) = decide (L = M)
  | [], [] => rfl
  | [], _ :: _ => rfl
  | _ :: _, [] => rfl
  | p :: L, q :: M => by
    show (PyData.eqv (enc p) (enc q) && PyData.eqvAll (L.map enc) (M.map enc)) = _
    rw [C.eqv, eqvAllX C L M]
    by_cases h : p = q <;> by_cases h' : L = M <;> simp [h, h']
theorem opv_eqX (C : Cod enc) (L M : List α) : opv .eq [.list (L.map enc), .list (M.map enc)] = some (.bool (decide (L = M))) := by
  rw [opv_eq (shpX C L) (shpX C M)]
  exact congrArg (fun b => some (PyData.bool b)) (eqvAllX C L M)
theorem opv_neX (C : Cod enc) (L M : List α) : opv .ne [.list (L.map enc), .list (M.map enc)] = some (.bool (!decide (L = M))) := by
  rw [opv_ne (shpX C L) (shpX C M)]
  exact congrArg (fun b => some (PyData.bool (!b))) (eqvAllX C L M)
theorem opv_eqX1 (C : Cod enc) (a b : α) : opv .eq [enc a, enc b] = some (.bool (decide (a = b))) := by
  rw [opv_eq (shpX1 C a) (shpX1 C b), C.eqv]
theorem opv_neX1 (C : Cod enc) (a b : α) : opv .ne [enc a, enc b] = some (.bool (!decide (a = b))) := by
  rw [opv_ne (shpX1 C a) (shpX1 C b), C.eqv]
theorem anyX (C : Cod enc) (L : List α) (p : α) : ((L.map enc).any fun z => PyData.eqv z (enc p)) = decide (p ∈ L) := by
  induction L with
  | nil => rfl
  | cons q L ih =>
    rw [List.map_cons, List.any_cons, ih, C.eqv]
    by_cases h : q = p
    · subst h; simp
    · have h' : ¬ p = q := fun e => h e.symm
      by_cases h2 : p ∈ L <;> simp [h, h', h2]
theorem opv_innX (C : Cod enc) (neg : Bool) (L : List α) (p : α) : opv (.inn neg) [enc p, .list (L.map enc)] = some (.bool (neg ^^ decide (p ∈ L))) := by
  have e : opv (.inn neg) [enc p, .list (L.map enc)] = if shp (enc p) && shp (.list (L.map enc)) then some (.bool (neg ^^ (L.map enc).any fun z => PyData.eqv z (enc p))) else none := rfl
  rw [e, shpX C, shpX1 C, anyX C]
  rfl
/-- the place of a thing -/
def plc (L : List α) (a : α) : Nat := L.findIdx fun z => decide (z = a)
theorem plc_lt {L : List α} {a : α} (h : a ∈ L) : plc L a < L.length := List.findIdx_lt_length.2 ⟨a, h, by simp⟩
theorem plc_get {L : List α} {a : α} (h : a ∈ L) : L[plc L a]'(plc_lt h) = a := by
  have := @List.findIdx_getElem α (fun z => decide (z = a)) L (plc_lt h)
  exact of_decide_eq_true this
theorem plc_inj {L : List α} {a b : α} (ha : a ∈ L) (hb : b ∈ L) (h : plc L a = plc L b) : a = b := by
  have h1 := plc_get ha
  have h2 := plc_get hb
  simp only [h] at h1
  exact h1.symm.trans h2
theorem plc_of {L : List α} (hn : L.Nodup) {k : Nat} (h : k < L.length) : plc L L[k] = k := by
  have hm : L[k] ∈ L := List.getElem_mem h
  exact (List.getElem_inj hn).1 (plc_get hm)
theorem opv_idxX (C : Cod enc) {L : List α} {a : α} (h : a ∈ L) : opv .idx [.list (L.map enc), enc a] = some (.int (plc L a)) := by
  have e : opv .idx [.list (L.map enc), enc a] = if shp (enc a) && shp (.list (L.map enc)) then ((L.map enc).findIdx? fun z => PyData.eqv z (enc a)).map (fun (j : Nat) => PyData.int (j : Int)) else none := rfl
  rw [e, shpX C, shpX1 C]
  have : (L.map enc).findIdx? (fun z => PyData.eqv z (enc a)) = some (plc L a) := by
    rw [List.findIdx?_map]
    have f : ((fun z => PyData.eqv z (enc a)) ∘ enc) = fun z => decide (z = a) := by
      funext z
      exact C.eqv z a
    rw [f, List.findIdx?_eq_some_iff_findIdx_eq]
    exact ⟨plc_lt h, rfl⟩
  rw [this]
  rfl
theorem mmOkX (C : Cod enc) (a b : α) : mmOk [enc a, enc b] = true := by
  have n : ∀ a, (match enc a with | .none => false | _ => true) = true := fun a => by
    have := C.hd a
    cases h : enc a <;> simp_all [tupHd]
  unfold mmOk allAlike
  have da := C.dep a
  have db := C.dep b
  simp only [List.all_cons, List.all_nil, C.alk, Bool.and_true, Bool.true_and, Bool.and_eq_true, decide_eq_true_eq]
  exact ⟨⟨n a, n b⟩, by omega, by omega⟩
end
def minC (a b : C2) : C2 := if ltC b a then b else a
def maxC (a b : C2) : C2 := if ltC a b then b else a
theorem opv_mn (a b : C2) : opv .mn2D [e2 a, e2 b] = some (e2 (minC a b)) := by
  show (if mmOk [e2 a, e2 b] then some (if W.dataLt (e2 b) (e2 a) then e2 b else e2 a) else none) = _
  rw [mmOkX cod2, lt_e2, minC]
  by_cases h : ltC b a <;> simp [h]
theorem opv_mx (a b : C2) : opv .mx2D [e2 a, e2 b] = some (e2 (maxC a b)) := by
  show (if mmOk [e2 a, e2 b] then some (if W.dataLt (e2 a) (e2 b) then e2 b else e2 a) else none) = _
  rw [mmOkX cod2, lt_e2, maxC]
  by_cases h : ltC a b <;> simp [h]
/-! ### dicts by codes, more -/
section
variable {α β : Type} [DecidableEq α] {enc : α → D} {vnc : β → D}
theorem dct_sub (C : Cod enc) (A : List (α × β)) (a : α) (b : β) (h : A.length ≤ 1000000) : subv (enc a) (vnc b) (dct enc vnc A) = some (dct enc vnc (put A a b)) := by
  have k := kyOk_dct (vnc := vnc) C.key A a
  show (if kyOk (A.map fun p => (enc p.1, vnc p.2)) (enc a) = true ∧ (A.map fun p => (enc p.1, vnc p.2)).length < sizeLine then some (PyData.dict (dput (A.map fun p => (enc p.1, vnc p.2)) (enc a) (vnc b))) else none) = _
  rw [if_pos ⟨k, by rw [List.length_map]; exact small_line h⟩, dput_dct C.eqv A a b]
  rfl
theorem dct_ix (C : Cod enc) {A : List (α × β)} {a : α} {b : β} (h : look A a = some b) : opv .ixD [dct enc vnc A, enc a] = some (vnc b) := by
  show (if kyOk (A.map fun p => (enc p.1, vnc p.2)) (enc a) = true then dlook (A.map fun p => (enc p.1, vnc p.2)) (enc a) else none) = _
  rw [if_pos (kyOk_dct (vnc := vnc) C.key A a), dlook_dct (vnc := vnc) C.eqv A a, h]
  rfl
theorem dct_in (C : Cod enc) (neg : Bool) (A : List (α × β)) (a : α) : opv (.inD neg) [enc a, dct enc vnc A] = some (PyData.bool (neg ^^ decide (a ∈ A.map (·.1)))) := by
  show (if kyOk (A.map fun p => (enc p.1, vnc p.2)) (enc a) = true then some (PyData.bool (neg ^^ (dlook (A.map fun p => (enc p.1, vnc p.2)) (enc a)).isSome)) else none) = _
  rw [if_pos (kyOk_dct (vnc := vnc) C.key A a), dlook_dct (vnc := vnc) C.eqv A a]
  have : ((look A a).map vnc).isSome = decide (a ∈ A.map (·.1)) := by
    rw [Option.isSome_map]
    induction A with
    | nil => rfl
    | cons p A ih =>
      by_cases e : p.1 = a
      · simp [look, e]
      · have e' : ¬ a = p.1 := fun q => e q.symm
        have : look (p :: A) a = look A a := by simp [look, e]
        rw [this, ih]
        simp only [List.map_cons, List.mem_cons, e', false_or]
  rw [this]
theorem put_fresh {A : List (α × β)} {a : α} {b : β} (h : a ∉ A.map (·.1)) : put A a b = A ++ [(a, b)] := by
  induction A with
  | nil => rfl
  | cons p A ih =>
    rw [List.map_cons, List.mem_cons, not_or] at h
    rw [put, if_neg fun e => h.1 e.symm, ih h.2]
    rfl
theorem rowsD_keys (A : List (α × β)) : rowsD false (dct enc vnc A) = .ok (A.map fun p => enc p.1) := by simp [rowsD, dct, Function.comp_def]
end
/-! ### walking helpers -/
@[simp] theorem opv_eqB (a b : Bool) : opv .eq [.bool a, .bool b] = some (.bool (a == b)) := rfl
@[simp] theorem opv_neB (a b : Bool) : opv .ne [.bool a, .bool b] = some (.bool (!(a == b))) := rfl
@[simp] theorem opv_absI (a : Int) : opv .absI [.int a] = some (.int (if a < 0 then -a else a)) := rfl
@[simp] theorem exec_raise (c : Cg) (cls : Str) (ρ : Env) : exec c (.raise cls) ρ = .ex ⟨cls, none⟩ := rfl
@[simp] theorem exec_par (c : Cg) (i j : Nat) (es : Es) (ρ : Env) : exec c (.par i j es) ρ = (evs c es ρ).fl fun ds => match ds with
    | [a, b] => .nx ((ρ.set i a).set j b)
    | _ => .bad := rfl
theorem exec_try (c : Cg) (b : B) (i : Nat) (yes no : List Str) (h : XB) (cl : List Nat) (ρ : Env) : exec c (.try b i yes no h cl) ρ = (catchX yes no (fun x => (xrun x h ρ).fl) (execB c b ρ)).then fun ρ => .nx (clear cl ρ) := rfl
@[simp] theorem res_ex (x : Exc) : (Fl.ex x).res = .ex x := rfl
section
variable {c : Cg} {α A : Type}
theorem forX_go {enc : α → D} {step : A → α → A} {env : A → Env} {b : Env → Fl} {tg : Tg} {cl : List Nat} (I : A → List α → Prop)
    (h : ∀ a x xs, I a (x :: xs) → (∃ ρ1 ρ2, setTg tg (enc x) (env a) = some ρ1 ∧ b ρ1 = .nx ρ2 ∧ clear cl ρ2 = env (step a x)) ∧ I (step a x) xs) : ∀ (xs : List α) (a : A), I a xs → forX b tg cl (xs.map enc) (env a) = .nx (env (xs.foldl step a))
  | [], a, _ => rfl
  | x :: xs, a, i => by
    obtain ⟨⟨ρ1, ρ2, h1, h2, h3⟩, i'⟩ := h a x xs i
    rw [List.map_cons, forX_cons, h1, Res.of_some, Res.fl_ok, h2, loopK_nx, h3]
    exact forX_go I h xs (step a x) i'
theorem forX_same {enc : α → D} {ρ : Env} {b : Env → Fl} {tg : Tg} {cl : List Nat} (xs : List α) (h : ∀ x ∈ xs, ∃ ρ1 ρ2, setTg tg (enc x) ρ = some ρ1 ∧ b ρ1 = .nx ρ2 ∧ clear cl ρ2 = ρ) : forX b tg cl (xs.map enc) ρ = .nx ρ := by
  induction xs with
  | nil => rfl
  | cons x xs ih =>
    obtain ⟨ρ1, ρ2, h1, h2, h3⟩ := h x List.mem_cons_self
    rw [List.map_cons, forX_cons, h1, Res.of_some, Res.fl_ok, h2, loopK_nx, h3]
    exact ih fun y hy => h y (List.mem_cons_of_mem _ hy)
/-- a walk that ends at the first x -/
theorem forX_find [DecidableEq α] {enc : α → D} {ρ : Env} {b : Env → Fl} {tg : Tg} {cl : List Nat} {x : α} {r : D} : ∀ (xs : List α), (∀ y ∈ xs, ∃ ρ1, setTg tg (enc y) ρ = some ρ1 ∧ if y = x then b ρ1 = .rt r else ∃ ρ2, b ρ1 = .nx ρ2 ∧ clear cl ρ2 = ρ) → forX b tg cl (xs.map enc) ρ = if x ∈ xs then .rt r else .nx ρ
  | [], _ => by simp
  | y :: xs, h => by
    obtain ⟨ρ1, h1, h2⟩ := h y List.mem_cons_self
    rw [List.map_cons, forX_cons, h1, Res.of_some, Res.fl_ok]
    by_cases e : y = x
    · rw [if_pos e] at h2
      rw [h2, if_pos (by rw [e]; exact List.mem_cons_self)]
      rfl
    · rw [if_neg e] at h2
      obtain ⟨ρ2, h2, h3⟩ := h2
      rw [h2, loopK_nx, h3, forX_find xs fun z hz => h z (List.mem_cons_of_mem _ hz)]
      have : (x ∈ y :: xs) ↔ x ∈ xs := by
        rw [List.mem_cons]
        exact ⟨fun q => q.resolve_left fun q => e q.symm, .inr⟩
      simp only [this]
theorem ev_lc_map {enc : α → D} {g : α → D} {it : It} {tg : Tg} {cond el : E} {ρ : Env} (xs : List α) (hi : evI c it ρ = .ok (xs.map enc)) (h : ∀ x ∈ xs, ∃ ρ', setTg tg (enc x) ρ = some ρ' ∧ ev c cond ρ' = .ok (.bool true) ∧ ev c el ρ' = .ok (g x)) : ev c (.lc it tg cond el) ρ = .ok (.list (xs.map g)) := by
  rw [ev_lc, hi, Res.bind_ok, lcD_map' (g := g) xs fun x hx => ?_]
  · rfl
  · obtain ⟨ρ', h1, h2, h3⟩ := h x hx
    rw [h1, Res.of_some, Res.bind_ok, h2, h3]
    rfl
theorem ev_lc_filter {enc : α → D} {p : α → Bool} {g : α → D} {it : It} {tg : Tg} {cond el : E} {ρ : Env} (xs : List α) (hi : evI c it ρ = .ok (xs.map enc)) (h : ∀ x ∈ xs, ∃ ρ', setTg tg (enc x) ρ = some ρ' ∧ ev c cond ρ' = .ok (.bool (p x)) ∧ ev c el ρ' = .ok (g x)) : ev c (.lc it tg cond el) ρ = .ok (.list ((xs.filter p).map g)) := by
  rw [ev_lc, hi, Res.bind_ok, lcD_filter' (p := p) (g := g) xs fun x hx => ?_]
  · rfl
  · obtain ⟨ρ', h1, h2, h3⟩ := h x hx
    rw [h1, Res.of_some, Res.bind_ok, h2, h3]
    cases p x <;> rfl
theorem exec_for_of {ds : List D} {it : It} {tg : Tg} {b : B} {cl : List Nat} {ρ : Env} {r : Fl} (hi : evI c it ρ = .ok ds) (h : forX (execB c b) tg cl ds (clear cl ρ) = r) : exec c (.for it tg b cl) ρ = r := by
  rw [exec_for, hi]
  exact h
theorem exec_forR_of {ds : List D} {it : Bool} {i : Nat} {tg : Tg} {b : B} {cl : List Nat} {ρ ρ' : Env} (hi : rowsD it (ρ.getD i .none) = .ok ds) (h : forX (execB c b) tg cl ds (clear cl ρ) = .nx ρ') : exec c (.forR it i tg b cl) ρ = .nx ρ' := by
  rw [exec_forR, hi, Res.fl_ok, h]
  rfl
theorem setTg2 (i j : Nat) (a b : D) (ρ : Env) : setTg (.t [i, j]) (.tuple [a, b]) ρ = some ((ρ.set i a).set j b) := rfl
theorem setTg3 (i j k : Nat) (a b d : D) (ρ : Env) : setTg (.t [i, j, k]) (.tuple [a, b, d]) ρ = some (((ρ.set i a).set j b).set k d) := rfl
theorem mu_clr0 {i : Nat} {ρ : Env} {xs : List D} {b : D} (h : ρ.getD i .none = .tuple [.list xs, b]) : exec c (.mu .clr i (.cons (.tup (.cons (.k (.int 0)) .nil)) .nil) .nil) ρ = .nx (ρ.set i (.tuple [.list [], b])) := by
  unfold exec
  rw [h]
  rfl
theorem mu_clr1 {i : Nat} {ρ : Env} {xs : List D} {b : D} (h : ρ.getD i .none = .tuple [b, .list xs]) : exec c (.mu .clr i (.cons (.tup (.cons (.k (.int 1)) .nil)) .nil) .nil) ρ = .nx (ρ.set i (.tuple [b, .list []])) := by
  unfold exec
  rw [h]
  rfl
theorem mu_app1 {i : Nat} {ρ : Env} {xs : List D} {b : D} {e : Es} {y : D} {r : D} (h : ρ.getD i .none = .tuple [b, .list xs]) (he : evs c e ρ = .ok [y]) (ha : muv .app [y] (.list xs) = some r) : exec c (.mu .app i (.cons (.tup (.cons (.k (.int 1)) .nil)) .nil) e) ρ = .nx (ρ.set i (.tuple [b, r])) := by
  unfold exec
  rw [h, he]
  show (Res.of (updAt (muv .app [y]) [.tuple [.int 1]] (.tuple [b, .list xs]))).fl _ = _
  have : updAt (muv .app [y]) [.tuple [.int 1]] (.tuple [b, .list xs]) = some (.tuple [b, r]) := by
    show ((updAt (muv .app [y]) [] (.list xs)).map fun y => PyData.tuple ([b, PyData.list xs].set 1 y)) = _
    show ((muv .app [y] (.list xs)).map fun y => PyData.tuple ([b, PyData.list xs].set 1 y)) = _
    rw [ha]
    rfl
  rw [this]
  rfl
theorem mu_app0 {i : Nat} {ρ : Env} {xs : List D} {b : D} {e : Es} {y : D} {r : D} (h : ρ.getD i .none = .tuple [.list xs, b]) (he : evs c e ρ = .ok [y]) (ha : muv .app [y] (.list xs) = some r) : exec c (.mu .app i (.cons (.tup (.cons (.k (.int 0)) .nil)) .nil) e) ρ = .nx (ρ.set i (.tuple [r, b])) := by
  unfold exec
  rw [h, he]
  show (Res.of (updAt (muv .app [y]) [.tuple [.int 0]] (.tuple [.list xs, b]))).fl _ = _
  have : updAt (muv .app [y]) [.tuple [.int 0]] (.tuple [.list xs, b]) = some (.tuple [r, b]) := by
    show ((updAt (muv .app [y]) [] (.list xs)).map fun y => PyData.tuple ([PyData.list xs, b].set 0 y)) = _
    show ((muv .app [y] (.list xs)).map fun y => PyData.tuple ([PyData.list xs, b].set 0 y)) = _
    rw [ha]
    rfl
  rw [this]
  rfl
theorem evI_rng_of {n : Nat} {es : Es} {ρ : Env} (h : evs c es ρ = .ok [.int n]) (hn : n ≤ 1000000) : evI c (.rng es) ρ = .ok ((List.range n).map fun i => .int (i : Nat)) := by
  rw [← rg1]
  exact evI_rngN h (rgOk1 hn)
end
end En

set_option Elab.async false
set_option linter.all false
set_option autoImplicit false
set_option maxRecDepth 100000
namespace En
open PySem
/-! ## later statements, the least of some, dicts of lists of numbers -/
section
variable {c : Cg} {ρ : Env}
@[simp] theorem ev_xmk (cls f : Str) (e : E) : ev c (.xmk cls f e) ρ = ev c e ρ := rfl
@[simp] theorem ev_dlit (a b : E) : ev c (.dlit a b) ρ = (ev c a ρ).bind fun k => if keyOk k then (ev c b ρ).bind fun v => .ok (.dict [(k, v)]) else .bad := rfl
@[simp] theorem exec_sdapp (nw : Bool) (i : Nat) (k e : E) : exec c (.sdapp nw i k e) ρ = if isKd .dict (ρ.getD i .none) then (ev c k ρ).fl fun kd => if sdOk nw kd (ρ.getD i .none) then (ev c e ρ).noex.fl fun y => (Res.of (sdv kd y (ρ.getD i .none))).fl fun d => .nx (ρ.set i d) else .bad else .bad := rfl
theorem exec_forE (e : E) (tg : Tg) (b : B) (cl : List Nat) : exec c (.forE e tg b cl) ρ = ((ev c e ρ).bind fun d => rowsD true d).fl fun ds => forX (execB c b) tg cl ds (clear cl ρ) := rfl
theorem exec_forE_of {e : E} {tg : Tg} {b : B} {cl : List Nat} {d : D} {ds : List D} {r : Fl} (h1 : ev c e ρ = .ok d) (h2 : rowsD true d = .ok ds) (h : forX (execB c b) tg cl ds (clear cl ρ) = r) : exec c (.forE e tg b cl) ρ = r := by
  rw [exec_forE, h1, Res.bind_ok, h2]
  exact h
@[simp] theorem exec_raiseW (cls fld : Str) (e : E) : exec c (.raiseW cls fld e) ρ = (ev c e ρ).fl fun d => if imm d then .ex ⟨cls, some (fld, d)⟩ else .bad := rfl
@[simp] theorem evI_enumE (e : E) : evI c (.enum e) ρ = (ev c e ρ).bind fun d => (asL d).bind fun xs => .ok (xs.zipIdx.map fun p => .tuple [.int (p.2 : Nat), p.1]) := by
  show ((ev c e ρ).bind fun d => _) = _
  cases ev c e ρ with
  | ok d =>
    simp only [Res.bind_ok]
    cases d <;> first | rfl | skip
  | ex x => rfl
  | bad => rfl
end
section
variable {α : Type} [DecidableEq α] {enc : α → D}
theorem mmOkL (C : Cod enc) (L : List α) : mmOk (L.map enc) = true := by
  have n : ∀ a, (match enc a with | .none => false | _ => true) = true := fun a => by
    have := C.hd a
    cases h : enc a <;> simp_all [tupHd]
  have al : allAlike (L.map enc) = true := by
    unfold allAlike
    simp [C.alk]
  unfold mmOk
  rw [al]
  simp only [Bool.true_and, Bool.and_eq_true, List.all_eq_true, List.mem_map]
  constructor
  · rintro _ ⟨a, _, rfl⟩
    exact n a
  · rintro _ ⟨a, _, rfl⟩
    have := C.dep a
    exact decide_eq_true (by omega)
theorem leX_trans {a b c : α} (h1 : leX enc a b = true) (h2 : leX enc b c = true) : leX enc a c = true := (leX_total enc).trans _ _ _ h1 h2
theorem leX_refl (a : α) : leX enc a a = true := by
  rcases (leX_total enc).total a a with h | h <;> exact h
theorem minD_spec (xs : List α) : ∀ x : α, ∃ m, W.minD (enc x) (xs.map enc) = enc m ∧ m ∈ x :: xs ∧ ∀ y ∈ x :: xs, leX enc m y = true := by
  induction xs with
  | nil => exact fun x => ⟨x, rfl, by simp, fun y hy => by rw [List.mem_singleton] at hy; rw [hy]; exact leX_refl x⟩
  | cons z xs ih =>
    intro x
    have e : W.minD (enc x) ((z :: xs).map enc) = W.minD (if W.dataLt (enc z) (enc x) then enc z else enc x) (xs.map enc) := rfl
    rw [e]
    by_cases h : W.dataLt (enc z) (enc x) = true
    · rw [if_pos h]
      obtain ⟨m, e1, e2, e3⟩ := ih z
      refine ⟨m, e1, List.mem_cons_of_mem _ e2, fun y hy => ?_⟩
      rcases List.mem_cons.1 hy with rfl | hy
      · refine leX_trans (e3 z List.mem_cons_self) ?_
        rcases (leX_total enc).total z y with q | q
        · exact q
        · have : leX enc y z = !W.dataLt (enc z) (enc y) := rfl
          rw [this, h] at q
          cases q
      · exact e3 y hy
    · rw [if_neg h]
      obtain ⟨m, e1, e2, e3⟩ := ih x
      have hz : leX enc x z = true := by
        have : leX enc x z = !W.dataLt (enc z) (enc x) := rfl
        rw [this]
        simpa using h
      refine ⟨m, e1, ?_, fun y hy => ?_⟩
      · rcases List.mem_cons.1 e2 with rfl | q
        · exact List.mem_cons_self
        · exact List.mem_cons_of_mem _ (List.mem_cons_of_mem _ q)
      · rcases List.mem_cons.1 hy with rfl | hy
        · exact e3 y List.mem_cons_self
        rcases List.mem_cons.1 hy with rfl | hy
        · exact leX_trans (e3 x List.mem_cons_self) hz
        · exact e3 y (List.mem_cons_of_mem _ hy)
theorem srtX_nil : srtX enc [] = [] := List.length_eq_zero_iff.1 (by rw [srtX_len]; rfl)
/-- the first of the rising ones, or None -/
def hdD (enc : α → D) (L : List α) : D := match srtX enc L with
  | [] => .none
  | a :: _ => enc a
theorem opv_mnLN (C : Cod enc) (L : List α) : opv .mnLN [.list (L.map enc)] = some (hdD enc L) := by
  cases L with
  | nil =>
    unfold hdD
    rw [srtX_nil]
    rfl
  | cons x xs =>
    have e : opv .mnLN [.list ((x :: xs).map enc)] = if mmOk ((x :: xs).map enc) then some (W.minD (enc x) (xs.map enc)) else none := rfl
    rw [e, if_pos (mmOkL C _)]
    obtain ⟨m, e1, e2, e3⟩ := minD_spec (enc := enc) xs x
    rw [e1]
    have hs := srtX_sorted (enc := enc) (L := x :: xs)
    have hp := srtX_perm (enc := enc) (L := x :: xs)
    unfold hdD
    cases h : srtX enc (x :: xs) with
    | nil => rw [h] at hp; exact absurd hp.length_eq (by simp)
    | cons a r =>
      rw [h] at hs hp
      have ha : a ∈ x :: xs := hp.mem_iff.1 List.mem_cons_self
      have hm : m ∈ a :: r := hp.mem_iff.2 e2
      have l1 := e3 a ha
      have l2 : leX enc a m = true := by
        rcases List.mem_cons.1 hm with rfl | q
        · exact leX_refl _
        · exact (List.pairwise_cons.1 hs).1 m q
      rw [leX_anti C l1 l2]
theorem hdD_none (L : List α) (C : Cod enc) : hdD enc L = .none ↔ L = [] := by
  unfold hdD
  have hl := srtX_len (enc := enc) L
  cases h : srtX enc L with
  | nil =>
    rw [h] at hl
    exact ⟨fun _ => List.length_eq_zero_iff.1 hl.symm, fun _ => rfl⟩
  | cons a r =>
    refine ⟨fun q => ?_, fun q => ?_⟩
    · have := C.hd a
      simp only at q
      rw [q] at this
      cases this
    · subst q; rw [srtX_nil] at h; cases h
theorem hdD_some {L : List α} (h : L ≠ []) : ∃ a ∈ L, hdD enc L = enc a := by
  unfold hdD
  have hp := srtX_perm (enc := enc) (L := L)
  cases e : srtX enc L with
  | nil => rw [e] at hp; exact absurd (List.length_eq_zero_iff.1 hp.length_eq.symm) h
  | cons a r => rw [e] at hp; exact ⟨a, hp.mem_iff.1 List.mem_cons_self, rfl⟩
/-! ### dicts of lists of numbers -/
def nm (ks : List Nat) : D := .list (ks.map fun k : Nat => .int (k : Int))
abbrev dL (enc : α → D) (A : List (α × List Nat)) : D := dct enc nm A
def lk (A : List (α × List Nat)) (e : α) : List Nat := (look A e).getD []
def addK (A : List (α × List Nat)) (p : α × Nat) : List (α × List Nat) := put A p.1 (lk A p.1 ++ [p.2])
def fk (L : List (α × Nat)) (A : List (α × List Nat)) : List (α × List Nat) := L.foldl addK A
theorem put_put (A : List (α × List Nat)) (e : α) (b b' : List Nat) : put (put A e b) e b' = put A e b' := by
  induction A with
  | nil => simp [put]
  | cons p A ih =>
    by_cases h : p.1 = e
    · simp [put, h]
    · simp [put, h, ih]
theorem addK_new {A : List (α × List Nat)} {e : α} {k : Nat} (h : look A e = none) : addK (put A e []) (e, k) = addK A (e, k) := by
  unfold addK lk
  simp only
  rw [look_put, if_pos rfl, h, put_put]
  rfl
theorem sdOk_dL (C : Cod enc) (nw : Bool) (A : List (α × List Nat)) (e : α) (hA : A.length ≤ 1000000) (hs : (lk A e).length ≤ 1000000) (h : nw = true ∨ look A e ≠ none) : sdOk nw (enc e) (dL enc A) = true := by
  have k := kyOk_dct (vnc := nm) C.key A e
  have l := dlook_dct (vnc := nm) C.eqv A e
  show (kyOk (A.map fun p : α × List Nat => (enc p.1, nm p.2)) (enc e) && decide ((A.map fun p : α × List Nat => (enc p.1, nm p.2)).length < sizeLine) && match dlook (A.map fun p : α × List Nat => (enc p.1, nm p.2)) (enc e) with
    | none => nw
    | some (.list xs) => decide (xs.length < sizeLine)
    | some _ => false) = true
  rw [k, l, List.length_map, decide_eq_true (small_line hA)]
  simp only [Bool.true_and]
  unfold lk at hs
  cases hl : look A e with
  | none =>
    rcases h with h | h
    · exact h
    · exact absurd hl h
  | some ks =>
    rw [hl] at hs
    simp only [Option.getD_some] at hs
    show decide ((ks.map fun k : Nat => PyData.int (k : Int)).length < sizeLine) = true
    rw [List.length_map]
    exact decide_eq_true (small_line hs)
theorem sdv_dL (C : Cod enc) (A : List (α × List Nat)) (e : α) (k : Nat) : sdv (enc e) (.int (k : Int)) (dL enc A) = some (dL enc (addK A (e, k))) := by
  have l := dlook_dct (vnc := nm) C.eqv A e
  have u := dput_dct (vnc := nm) C.eqv A e (lk A e ++ [k])
  show (match dlook (A.map fun p : α × List Nat => (enc p.1, nm p.2)) (enc e) with
    | none => some (PyData.dict (dput (A.map fun p : α × List Nat => (enc p.1, nm p.2)) (enc e) (PyData.list [PyData.int (k : Int)])))
    | some (.list xs) => some (.dict (dput (A.map fun p : α × List Nat => (enc p.1, nm p.2)) (enc e) (PyData.list (xs ++ [PyData.int (k : Int)]))))
    | some _ => none) = _
  have hn : nm (lk A e ++ [k]) = .list ((lk A e).map (fun k : Nat => PyData.int (k : Int)) ++ [.int (k : Int)]) := by simp [nm]
  rw [hn] at u
  rw [l]
  unfold lk at u
  cases hl : look A e with
  | none =>
    rw [hl] at u
    simp only [Option.map_none, Option.getD_none, List.map_nil, List.nil_append] at u ⊢
    rw [u]
    simp [dL, dct, addK, lk, hl]
  | some ks =>
    rw [hl] at u
    simp only [Option.map_some, Option.getD_some] at u ⊢
    show some (PyData.dict (dput (A.map fun p : α × List Nat => (enc p.1, nm p.2)) (enc e) (.list (ks.map (fun k : Nat => PyData.int (k : Int)) ++ [.int (k : Int)])))) = _
    rw [u]
    simp [dL, dct, addK, lk, hl]
theorem lk_addK (A : List (α × List Nat)) (p : α × Nat) (e : α) : lk (addK A p) e = if p.1 = e then lk A e ++ [p.2] else lk A e := by
  unfold addK
  show (look (put A p.1 _) e).getD [] = _
  rw [look_put]
  by_cases h : p.1 = e
  · subst h; simp
  · simp [h, lk]
theorem lk_fk (L : List (α × Nat)) : ∀ (A : List (α × List Nat)) (e : α), lk (fk L A) e = lk A e ++ (L.filter fun p => decide (p.1 = e)).map (·.2) := by
  induction L with
  | nil => intro A e; simp [fk]
  | cons p L ih =>
    intro A e
    show lk (fk L (addK A p)) e = _
    rw [ih, lk_addK, List.filter_cons]
    by_cases h : p.1 = e
    · simp [h]
    · simp [h]
theorem keys_fk (L : List (α × Nat)) : ∀ (A : List (α × List Nat)) (e : α), e ∈ (fk L A).map (·.1) ↔ e ∈ A.map (·.1) ∨ e ∈ L.map (·.1) := by
  induction L with
  | nil => intro A e; simp [fk]
  | cons p L ih =>
    intro A e
    show e ∈ (fk L (addK A p)).map (·.1) ↔ _
    rw [ih]
    unfold addK
    rw [put_keys]
    by_cases h : p.1 ∈ A.map (·.1)
    · rw [if_pos h, List.map_cons, List.mem_cons]
      constructor
      · rintro (q | q)
        · exact .inl q
        · exact .inr (.inr q)
      · rintro (q | rfl | q)
        · exact .inl q
        · exact .inl h
        · exact .inr q
    · rw [if_neg h, List.map_cons, List.mem_cons, List.mem_append, List.mem_singleton, or_assoc]
theorem nodup_fk (L : List (α × Nat)) : ∀ (A : List (α × List Nat)), (A.map (·.1)).Nodup → ((fk L A).map (·.1)).Nodup := by
  induction L with
  | nil => exact fun A h => h
  | cons p L ih => exact fun A h => ih _ (put_nodup h)
theorem len_fk (L : List (α × Nat)) : ∀ (A : List (α × List Nat)), (fk L A).length ≤ A.length + L.length := by
  induction L with
  | nil => exact fun A => by simp [fk]
  | cons p L ih =>
    intro A
    have h1 := ih (addK A p)
    have h2 : (addK A p).length ≤ A.length + 1 := put_len _ _ _
    rw [List.length_cons]
    show (fk L (addK A p)).length ≤ _
    omega
/-- a row's numbers are those of its key -/
theorem row_lk {A : List (α × List Nat)} (h : (A.map (·.1)).Nodup) {r : α × List Nat} (hr : r ∈ A) : lk A r.1 = r.2 := by
  unfold lk
  rw [(look_mem h).2 (show (r.1, r.2) ∈ A from hr)]
  rfl
end
end En

set_option Elab.async false
set_option linter.all false
set_option autoImplicit false
set_option maxRecDepth 100000
set_option maxHeartbeats 2000000
namespace K02
open PySem PySem.Spec PyProof.Rows L2 En
/-! ### the twenty-four turns -/
def cr (p q : P) : P := (p.2.1 * q.2.2 - p.2.2 * q.2.1, p.2.2 * q.1 - p.1 * q.2.2, p.1 * q.2.1 - p.2.1 * q.1)
def mkT (x : P × P) : D := .tuple [t x.1, t x.2, t (cr x.1 x.2)]
def U6 : List P := [(-1, 0, 0), (0, -1, 0), (0, 0, -1), (0, 0, 1), (0, 1, 0), (1, 0, 0)]
def V6 : List P := [(1, 0, 0), (-1, 0, 0), (0, 1, 0), (0, -1, 0), (0, 0, 1), (0, 0, -1)]
def A24 : List (P × P) := U6.flatMap fun p => (U6.filter fun q => decide (cr p q ≠ (0, 0, 0))).map fun q => (p, q)
theorem all_turns0 : f_all_turns [] = .ok (.list (sortD (A24.map mkT))) := by kernel_rfl
theorem a24_rise : (A24.map mkT).Pairwise fun a b => W.dataLe false id a b = true := by decide +kernel
theorem all_turns : f_all_turns [] = .ok (.list (A24.map mkT)) := by
  rw [all_turns0]
  have : sortD (A24.map mkT) = A24.map mkT := List.mergeSort_of_pairwise a24_rise
  rw [this]
theorem right : f__law_turns_right [.list (A24.map mkT)] = .ok (.bool true) := by kernel_rfl
theorem is_turns0 : A24.map (fun x => f_is_turn [mkT x]) = A24.map fun _ => .ok (.bool true) := by kernel_rfl
theorem is_turns : ∀ x ∈ A24, f_is_turn [mkT x] = .ok (.bool true) := List.map_inj_left.1 is_turns0
theorem inns0 : A24.map (fun x => opv (.inn true) [mkT x, .list (A24.map mkT)]) = A24.map fun _ => some (.bool false) := by kernel_rfl
theorem inns : ∀ x ∈ A24, opv (.inn true) [mkT x, .list (A24.map mkT)] = some (.bool false) := List.map_inj_left.1 inns0
def oddT (y : (P × P) × Nat × Nat) : Res D := match f__law_odd [mkT y.1, .int (y.2.1 : Int), .int (y.2.2 : Int)] with
  | .ok d => f_is_turn [d]
  | _ => .bad
def O1 (k : Nat) : List ((P × P) × Nat × Nat) := A24.flatMap fun x => (List.range 3).map fun a => (x, k, a)
theorem odds_0 : (O1 0).map oddT = (O1 0).map fun _ => .ok (.bool false) := by kernel_rfl
theorem odds_1 : (O1 1).map oddT = (O1 1).map fun _ => .ok (.bool false) := by kernel_rfl
theorem odds_2 : (O1 2).map oddT = (O1 2).map fun _ => .ok (.bool false) := by kernel_rfl
theorem odds_3 : (O1 3).map oddT = (O1 3).map fun _ => .ok (.bool false) := by kernel_rfl
theorem odds_4 : (O1 4).map oddT = (O1 4).map fun _ => .ok (.bool false) := by kernel_rfl
theorem odds_5 : (O1 5).map oddT = (O1 5).map fun _ => .ok (.bool false) := by kernel_rfl
theorem odds_6 : (O1 6).map oddT = (O1 6).map fun _ => .ok (.bool false) := by kernel_rfl
theorem odds_7 : (O1 7).map oddT = (O1 7).map fun _ => .ok (.bool false) := by kernel_rfl
theorem odds_8 : (O1 8).map oddT = (O1 8).map fun _ => .ok (.bool false) := by kernel_rfl
theorem odds_9 : (O1 9).map oddT = (O1 9).map fun _ => .ok (.bool false) := by kernel_rfl
theorem odds_10 : (O1 10).map oddT = (O1 10).map fun _ => .ok (.bool false) := by kernel_rfl
theorem odds_11 : (O1 11).map oddT = (O1 11).map fun _ => .ok (.bool false) := by kernel_rfl
theorem odds_12 : (O1 12).map oddT = (O1 12).map fun _ => .ok (.bool false) := by kernel_rfl
theorem odds_13 : (O1 13).map oddT = (O1 13).map fun _ => .ok (.bool false) := by kernel_rfl
theorem odds_14 : (O1 14).map oddT = (O1 14).map fun _ => .ok (.bool false) := by kernel_rfl
theorem odds_15 : (O1 15).map oddT = (O1 15).map fun _ => .ok (.bool false) := by kernel_rfl
theorem odds0 {k : Nat} (hk : k < 16) : (O1 k).map oddT = (O1 k).map fun _ => .ok (.bool false) := by
  have : k = 0 ∨ k = 1 ∨ k = 2 ∨ k = 3 ∨ k = 4 ∨ k = 5 ∨ k = 6 ∨ k = 7 ∨ k = 8 ∨ k = 9 ∨ k = 10 ∨ k = 11 ∨ k = 12 ∨ k = 13 ∨ k = 14 ∨ k = 15 := by omega
  rcases this with rfl | rfl | rfl | rfl | rfl | rfl | rfl | rfl | rfl | rfl | rfl | rfl | rfl | rfl | rfl | rfl
  · exact odds_0
  · exact odds_1
  · exact odds_2
  · exact odds_3
  · exact odds_4
  · exact odds_5
  · exact odds_6
  · exact odds_7
  · exact odds_8
  · exact odds_9
  · exact odds_10
  · exact odds_11
  · exact odds_12
  · exact odds_13
  · exact odds_14
  · exact odds_15
theorem odds {x : P × P} (hx : x ∈ A24) {k a : Nat} (hk : k < 16) (ha : a < 3) : ∃ d, f__law_odd [mkT x, .int (k : Int), .int (a : Int)] = .ok d ∧ f_is_turn [d] = .ok (.bool false) := by
  have := List.map_inj_left.1 (odds0 hk) (x, k, a) (List.mem_flatMap.2 ⟨x, hx, List.mem_map.2 ⟨a, List.mem_range.2 ha, rfl⟩⟩)
  unfold oddT at this
  simp only at this
  cases e : f__law_odd [mkT x, .int (k : Int), .int (a : Int)] with
  | ok d => rw [e] at this; exact ⟨d, rfl, this⟩
  | ex _ => rw [e] at this; cases this
  | bad => rw [e] at this; cases this
theorem cell (ns : List Int) (k : Nat) : f__law_cell_at [.list (ns.map .int), .int (k : Int)] = .ok (.int (cv ns k)) := by
  unfold cv
  by_cases h : k < ns.length
  · simp (decide := true) [f__law_cell_at, runB_eq, t__law_cell_at, h]
    rw [En.atI_nat _ _ (by simpa using h)]
    simp [h]
  · simp (decide := true) [f__law_cell_at, runB_eq, t__law_cell_at, h]
/-! ### the turn that is made -/
theorem un : f__law_units [] = .ok (.list (V6.map t)) := by kernel_rfl
def oth (p : P) : List P := V6.filter fun q => decide (cr p q ≠ (0, 0, 0))
theorem oth_len : ∀ p ∈ V6, (oth p).length = 4 ∧ ∀ q ∈ oth p, (p, q) ∈ A24 := by decide +kernel
theorem tn_2 (c : Int) : ∀ p ∈ V6, ev ⟨[f__law_units, f__law_cross], [], []⟩ (.lc (.lst (.call 0 .nil [])) (.s 2) (.op .ne (.cons (.call 1 (.cons (.v 1) (.cons (.v 2) .nil)) []) (.cons (.tup (.cons (.k (.int 0)) (.cons (.k (.int 0)) (.cons (.k (.int 0)) .nil)))) .nil))) (.v 2)) [.int c, t p, .none, .none, .none] = .ok (.list ((oth p).map t)) := by
  refine List.map_inj_left.1 (?_ : V6.map _ = V6.map _)
  kernel_rfl
theorem tn_4 : ∀ x ∈ A24, f__law_cross [t x.1, t x.2] = .ok (t (cr x.1 x.2)) := by
  refine List.map_inj_left.1 (?_ : A24.map _ = A24.map _)
  kernel_rfl
theorem turn (c : Int) : ∃ x ∈ A24, f__law_turn [.int c] = .ok (mkT x) := by
  have i0 : 0 ≤ c % 6 := by omega
  have i1 : c % 6 < (V6.length : Int) := by show c % 6 < 6; omega
  have x1 : opv .ixL [.list (V6.map t), .int (c % 6)] = some (t (V6[(c % 6).toNat]'(by omega))) := ixL_t i0 i1
  have hp : V6[(c % 6).toNat]'(by omega) ∈ V6 := List.getElem_mem _
  generalize V6[(c % 6).toNat]'(by omega) = p at *
  obtain ⟨l4, ma⟩ := oth_len p hp
  have j0 : 0 ≤ c / 6 % 4 := by omega
  have j1 : c / 6 % 4 < ((oth p).length : Int) := by rw [l4]; omega
  have x2 : opv .ixL [.list ((oth p).map t), .int (c / 6 % 4)] = some (t ((oth p)[(c / 6 % 4).toNat]'(by omega))) := ixL_t j0 j1
  have hq : (oth p)[(c / 6 % 4).toNat]'(by omega) ∈ oth p := List.getElem_mem _
  generalize (oth p)[(c / 6 % 4).toNat]'(by omega) = q at *
  have e4 := tn_4 (p, q) (ma q hq)
  have e2 := tn_2 c p hp
  refine ⟨(p, q), ma q hq, ?_⟩
  have u := un
  unfold f__law_turn
  refine runB_of ?_
  show execB _ t__law_turn [.int c, .none, .none, .none, .none] = _
  refine stepB (ρ' := [.int c, t p, .none, .none, .none]) (by
    generalize V6.map t = L at *
    simp (decide := true) [callD, u, x1, -opv_ixL]) ?_
  refine stepB (ρ' := [.int c, t p, .none, .list ((oth p).map t), .none]) (by rw [exec_set, e2]; rfl) ?_
  refine stepB (ρ' := [.int c, t p, .none, .list ((oth p).map t), t q]) (by
    generalize (oth p).map t = L at *
    simp (decide := true) [x2, -opv_ixL]) ?_
  refine lastB ?_
  show _ = Fl.rt (.tuple [t p, t q, t (cr p q)])
  generalize (oth p).map t = L at *
  simp only at e4
  generalize t (cr p q) = tc at *
  simp (decide := true) [callD, e4]
/-! ### the law -/
theorem law_true (ns : List Int) (hl : ns.length ≤ 63) (hb : ∀ z ∈ ns, Builtin.Int.intBits z ≤ 1048576) : f_law [.list (ns.map .int)] = .ok (.bool true) := by
  have c0 := cell ns 0
  have c1 := cell ns 1
  have c2 := cell ns 2
  rw [show ((0 : Nat) : Int) = 0 from rfl] at c0
  rw [show ((1 : Nat) : Int) = 1 from rfl] at c1
  rw [show ((2 : Nat) : Int) = 2 from rfl] at c2
  obtain ⟨x, hx, et⟩ := turn (cv ns 0)
  have it := is_turns x hx
  have inn := inns x hx
  obtain ⟨k, hk⟩ : ∃ k : Nat, (k : Int) = cv ns 1 % 16 := ⟨(cv ns 1 % 16).toNat, by omega⟩
  obtain ⟨a, ha⟩ : ∃ a : Nat, (a : Int) = cv ns 2 % 3 := ⟨(cv ns 2 % 3).toNat, by omega⟩
  obtain ⟨d, eo, io⟩ := odds hx (k := k) (a := a) (by omega) (by omega)
  rw [hk, ha] at eo
  have ea := all_turns
  have er := right
  have its := is_turns
  generalize hT : mkT x = T at *
  unfold f_law
  generalize f__law_turn = F1 at *
  generalize f__law_cell_at = F2 at *
  generalize f_all_turns = F3 at *
  generalize f__law_turns_right = F4 at *
  generalize f_is_turn = F5 at *
  generalize f__law_odd = F6 at *
  refine runB_of ?_
  show execB _ t_law [.list (ns.map .int), .none, .none, .none, .none] = _
  generalize ns.map PyData.int = dn at *
  have tt : opv .notN [.bool true, .bool true] = some (.bool false) := rfl
  have ff : opv .notN [.bool false, .bool false] = some (.bool false) := rfl
  have ti : opv .isN [.bool true, .bool true] = some (.bool true) := rfl
  refine stepB (ρ' := [.list dn, T, .none, .none, .none]) (by simp (decide := true) [callD, c0, et]) ?_
  refine stepB (ρ' := [.list dn, T, .list (A24.map mkT), .none, .none]) (by simp (decide := true) [callD, ea]) ?_
  refine stepB (ρ' := [.list dn, T, .list (A24.map mkT), .none, .none]) (by
    generalize A24.map mkT = dA at *
    simp (decide := true) [callD, er, inn]) ?_
  refine stepB (ρ' := [.list dn, T, .list (A24.map mkT), .none, .none]) ?_ ?_
  · have e : ∀ ρ : En.Env, exec ⟨[F1, F2, F3, F4, F5, F6], [], []⟩ (.forO 2 (.s 3) t_law_b0 [3]) ρ = forOX (execB ⟨[F1, F2, F3, F4, F5, F6], [], []⟩ t_law_b0) (.s 3) [3] 2 (lenO (ρ.getD 2 .none)) 0 (clear [3] ρ) := fun _ => rfl
    rw [e]
    have go : ∀ (n k : Nat), k + n = A24.length → forOX (execB ⟨[F1, F2, F3, F4, F5, F6], [], []⟩ t_law_b0) (.s 3) [3] 2 n k [.list dn, T, .list (A24.map mkT), .none, .none] = .nx [.list dn, T, .list (A24.map mkT), .none, .none] := fun n => by
      induction n with
      | zero =>
        intro k hk
        unfold forOX
        show (if (A24.map mkT).length ≤ k then _ else _) = _
        rw [if_pos (by rw [List.length_map]; omega)]
      | succ n ih =>
        intro k hk
        have hk' : k < A24.length := by omega
        have i1 := its A24[k] (List.getElem_mem hk')
        have b : execB ⟨[F1, F2, F3, F4, F5, F6], [], []⟩ t_law_b0 [.list dn, T, .list (A24.map mkT), mkT A24[k], .none] = .nx [.list dn, T, .list (A24.map mkT), mkT A24[k], .none] := by
          generalize A24.map mkT = dA at *
          generalize mkT A24[k] = m at *
          simp (decide := true) [t_law_b0, callD, i1, tt]
        have ge : (A24.map mkT)[k]? = some (mkT A24[k]) := by rw [List.getElem?_map, List.getElem?_eq_getElem hk']; rfl
        have un : forOX (execB ⟨[F1, F2, F3, F4, F5, F6], [], []⟩ t_law_b0) (.s 3) [3] 2 (n + 1) k [.list dn, T, .list (A24.map mkT), .none, .none] = match (A24.map mkT)[k]? with
          | none => .nx [.list dn, T, .list (A24.map mkT), .none, .none]
          | some d => (Res.of (setTg (.s 3) d [.list dn, T, .list (A24.map mkT), .none, .none])).fl fun ρ1 => loopK (execB ⟨[F1, F2, F3, F4, F5, F6], [], []⟩ t_law_b0 ρ1) (forOX (execB ⟨[F1, F2, F3, F4, F5, F6], [], []⟩ t_law_b0) (.s 3) [3] 2 n (k + 1)) [3] := rfl
        have es : ∀ d : D, setTg (.s 3) d [.list dn, T, .list (A24.map mkT), .none, .none] = some [.list dn, T, .list (A24.map mkT), d, .none] := fun _ => rfl
        rw [un, ge]
        show (Res.of (setTg (.s 3) (mkT A24[k]) [.list dn, T, .list (A24.map mkT), .none, .none])).fl _ = _
        rw [es, Res.of_some, Res.fl_ok, b, loopK_nx]
        exact ih (k + 1) (by omega)
    have ln : lenO (([PyData.list dn, T, .list (A24.map mkT), .none, .none] : En.Env).getD 2 .none) = A24.length := by
      show (A24.map mkT).length = _
      rw [List.length_map]
    rw [ln]
    exact go _ 0 (by omega)
  refine stepB (ρ' := [.list dn, T, .list [], .none, .none]) (by
    generalize A24.map mkT = dA at *
    simp (decide := true)) ?_
  refine stepB (ρ' := [.list dn, T, .list [], .none, d]) (by simp (decide := true) [callD, c1, c2, eo]) ?_
  refine stepB (ρ' := [.list dn, T, .list [], .none, d]) (by simp (decide := true) [callD, it, io, tt, ff]) ?_
  refine lastB ?_
  generalize A24.map mkT = dA at *
  simp (decide := true) [callD, ea, er, it, ti]
end K02

set_option Elab.async false
set_option linter.all false
set_option autoImplicit false
set_option maxRecDepth 100000
set_option maxHeartbeats 4000000
set_option pp.maxSteps 60
namespace K02
open PySem PySem.Spec PyProof.Rows L2 En
section
variable {w : World} {K : PySem.W.Frag} {h : Heap} {mg : Str → Option Value}
theorem all_mk (X : K.In h) (G : h.Ns mainGlobals mg) {fa : Addr} (hfa : mg "law" = some (.ref fa))
    {f0 : Addr} {od0 an0 : Option Addr} {sl0 : Array (Option Value)} {oc0 kV0 dc0 pm0 cd0 ct0 : Value} (a0 : PySem.W.nsIn K mainGlobals "_law_units" = some (some (.ref f0))) (l0 : K.lookup f0 = some ⟨oc0, od0, .func (PySem.W.fnOf "_law_units" "_law_units" (defArgs (topS 13)) (defBody (topS 13)) (defScope (topS 13)) .none kV0 dc0 pm0 an0 cd0 ct0), sl0⟩) (c0 : PySem.W.codeIn K cd0 "_law_units" = true) (k0 : PySem.W.keepIn K (.ref f0) = true)
    {f1 : Addr} {od1 an1 : Option Addr} {sl1 : Array (Option Value)} {oc1 kV1 dc1 pm1 cd1 ct1 : Value} (a1 : PySem.W.nsIn K mainGlobals "_law_cross" = some (some (.ref f1))) (l1 : K.lookup f1 = some ⟨oc1, od1, .func (PySem.W.fnOf "_law_cross" "_law_cross" (defArgs (topS 12)) (defBody (topS 12)) (defScope (topS 12)) .none kV1 dc1 pm1 an1 cd1 ct1), sl1⟩) (c1 : PySem.W.codeIn K cd1 "_law_cross" = true) (k1 : PySem.W.keepIn K (.ref f1) = true)
    {f2 : Addr} {od2 an2 : Option Addr} {sl2 : Array (Option Value)} {oc2 kV2 dc2 pm2 cd2 ct2 : Value} (a2 : PySem.W.nsIn K mainGlobals "_law_turn" = some (some (.ref f2))) (l2 : K.lookup f2 = some ⟨oc2, od2, .func (PySem.W.fnOf "_law_turn" "_law_turn" (defArgs (topS 14)) (defBody (topS 14)) (defScope (topS 14)) .none kV2 dc2 pm2 an2 cd2 ct2), sl2⟩) (c2 : PySem.W.codeIn K cd2 "_law_turn" = true) (k2 : PySem.W.keepIn K (.ref f2) = true)
    {f3 : Addr} {od3 an3 : Option Addr} {sl3 : Array (Option Value)} {oc3 kV3 dc3 pm3 cd3 ct3 : Value} (a3 : PySem.W.nsIn K mainGlobals "_law_cell_at" = some (some (.ref f3))) (l3 : K.lookup f3 = some ⟨oc3, od3, .func (PySem.W.fnOf "_law_cell_at" "_law_cell_at" (defArgs (topS 9)) (defBody (topS 9)) (defScope (topS 9)) .none kV3 dc3 pm3 an3 cd3 ct3), sl3⟩) (c3 : PySem.W.codeIn K cd3 "_law_cell_at" = true) (k3 : PySem.W.keepIn K (.ref f3) = true)
    {f4 : Addr} {od4 an4 : Option Addr} {sl4 : Array (Option Value)} {oc4 kV4 dc4 pm4 cd4 ct4 : Value} (a4 : PySem.W.nsIn K mainGlobals "cross" = some (some (.ref f4))) (l4 : K.lookup f4 = some ⟨oc4, od4, .func (PySem.W.fnOf "cross" "cross" (defArgs (topS 2)) (defBody (topS 2)) (defScope (topS 2)) .none kV4 dc4 pm4 an4 cd4 ct4), sl4⟩) (c4 : PySem.W.codeIn K cd4 "cross" = true) (k4 : PySem.W.keepIn K (.ref f4) = true)
    {f5 : Addr} {od5 an5 : Option Addr} {sl5 : Array (Option Value)} {oc5 kV5 dc5 pm5 cd5 ct5 : Value} (a5 : PySem.W.nsIn K mainGlobals "same_axis" = some (some (.ref f5))) (l5 : K.lookup f5 = some ⟨oc5, od5, .func (PySem.W.fnOf "same_axis" "same_axis" (defArgs (topS 3)) (defBody (topS 3)) (defScope (topS 3)) .none kV5 dc5 pm5 an5 cd5 ct5), sl5⟩) (c5 : PySem.W.codeIn K cd5 "same_axis" = true) (k5 : PySem.W.keepIn K (.ref f5) = true)
    {f6 : Addr} {od6 an6 : Option Addr} {sl6 : Array (Option Value)} {oc6 kV6 dc6 pm6 cd6 ct6 : Value} (a6 : PySem.W.nsIn K mainGlobals "all_turns" = some (some (.ref f6))) (l6 : K.lookup f6 = some ⟨oc6, od6, .func (PySem.W.fnOf "all_turns" "all_turns" (defArgs (topS 7)) (defBody (topS 7)) (defScope (topS 7)) .none kV6 dc6 pm6 an6 cd6 ct6), sl6⟩) (c6 : PySem.W.codeIn K cd6 "all_turns" = true) (k6 : PySem.W.keepIn K (.ref f6) = true)
    {f7 : Addr} {od7 an7 : Option Addr} {sl7 : Array (Option Value)} {oc7 kV7 dc7 pm7 cd7 ct7 : Value} (a7 : PySem.W.nsIn K mainGlobals "_law_whole" = some (some (.ref f7))) (l7 : K.lookup f7 = some ⟨oc7, od7, .func (PySem.W.fnOf "_law_whole" "_law_whole" (defArgs (topS 10)) (defBody (topS 10)) (defScope (topS 10)) .none kV7 dc7 pm7 an7 cd7 ct7), sl7⟩) (c7 : PySem.W.codeIn K cd7 "_law_whole" = true) (k7 : PySem.W.keepIn K (.ref f7) = true)
    {f8 : Addr} {od8 an8 : Option Addr} {sl8 : Array (Option Value)} {oc8 kV8 dc8 pm8 cd8 ct8 : Value} (a8 : PySem.W.nsIn K mainGlobals "_law_triple" = some (some (.ref f8))) (l8 : K.lookup f8 = some ⟨oc8, od8, .func (PySem.W.fnOf "_law_triple" "_law_triple" (defArgs (topS 11)) (defBody (topS 11)) (defScope (topS 11)) .none kV8 dc8 pm8 an8 cd8 ct8), sl8⟩) (c8 : PySem.W.codeIn K cd8 "_law_triple" = true) (k8 : PySem.W.keepIn K (.ref f8) = true)
    {f9 : Addr} {od9 an9 : Option Addr} {sl9 : Array (Option Value)} {oc9 kV9 dc9 pm9 cd9 ct9 : Value} (a9 : PySem.W.nsIn K mainGlobals "_law_turn_alike" = some (some (.ref f9))) (l9 : K.lookup f9 = some ⟨oc9, od9, .func (PySem.W.fnOf "_law_turn_alike" "_law_turn_alike" (defArgs (topS 15)) (defBody (topS 15)) (defScope (topS 15)) .none kV9 dc9 pm9 an9 cd9 ct9), sl9⟩) (c9 : PySem.W.codeIn K cd9 "_law_turn_alike" = true) (k9 : PySem.W.keepIn K (.ref f9) = true)
    {f10 : Addr} {od10 an10 : Option Addr} {sl10 : Array (Option Value)} {oc10 kV10 dc10 pm10 cd10 ct10 : Value} (a10 : PySem.W.nsIn K mainGlobals "_law_turns_right" = some (some (.ref f10))) (l10 : K.lookup f10 = some ⟨oc10, od10, .func (PySem.W.fnOf "_law_turns_right" "_law_turns_right" (defArgs (topS 17)) (defBody (topS 17)) (defScope (topS 17)) .none kV10 dc10 pm10 an10 cd10 ct10), sl10⟩) (c10 : PySem.W.codeIn K cd10 "_law_turns_right" = true) (k10 : PySem.W.keepIn K (.ref f10) = true)
    {f11 : Addr} {od11 an11 : Option Addr} {sl11 : Array (Option Value)} {oc11 kV11 dc11 pm11 cd11 ct11 : Value} (a11 : PySem.W.nsIn K mainGlobals "is_whole" = some (some (.ref f11))) (l11 : K.lookup f11 = some ⟨oc11, od11, .func (PySem.W.fnOf "is_whole" "is_whole" (defArgs (topS 4)) (defBody (topS 4)) (defScope (topS 4)) .none kV11 dc11 pm11 an11 cd11 ct11), sl11⟩) (c11 : PySem.W.codeIn K cd11 "is_whole" = true) (k11 : PySem.W.keepIn K (.ref f11) = true)
    {f12 : Addr} {od12 an12 : Option Addr} {sl12 : Array (Option Value)} {oc12 kV12 dc12 pm12 cd12 ct12 : Value} (a12 : PySem.W.nsIn K mainGlobals "is_unit" = some (some (.ref f12))) (l12 : K.lookup f12 = some ⟨oc12, od12, .func (PySem.W.fnOf "is_unit" "is_unit" (defArgs (topS 5)) (defBody (topS 5)) (defScope (topS 5)) .none kV12 dc12 pm12 an12 cd12 ct12), sl12⟩) (c12 : PySem.W.codeIn K cd12 "is_unit" = true) (k12 : PySem.W.keepIn K (.ref f12) = true)
    {f13 : Addr} {od13 an13 : Option Addr} {sl13 : Array (Option Value)} {oc13 kV13 dc13 pm13 cd13 ct13 : Value} (a13 : PySem.W.nsIn K mainGlobals "is_turn" = some (some (.ref f13))) (l13 : K.lookup f13 = some ⟨oc13, od13, .func (PySem.W.fnOf "is_turn" "is_turn" (defArgs (topS 6)) (defBody (topS 6)) (defScope (topS 6)) .none kV13 dc13 pm13 an13 cd13 ct13), sl13⟩) (c13 : PySem.W.codeIn K cd13 "is_turn" = true) (k13 : PySem.W.keepIn K (.ref f13) = true)
    {f14 : Addr} {od14 an14 : Option Addr} {sl14 : Array (Option Value)} {oc14 kV14 dc14 pm14 cd14 ct14 : Value} (a14 : PySem.W.nsIn K mainGlobals "_law_odd" = some (some (.ref f14))) (l14 : K.lookup f14 = some ⟨oc14, od14, .func (PySem.W.fnOf "_law_odd" "_law_odd" (defArgs (topS 16)) (defBody (topS 16)) (defScope (topS 16)) .none kV14 dc14 pm14 an14 cd14 ct14), sl14⟩) (c14 : PySem.W.codeIn K cd14 "_law_odd" = true) (k14 : PySem.W.keepIn K (.ref f14) = true)
    {f15 : Addr} {od15 an15 : Option Addr} {sl15 : Array (Option Value)} {oc15 kV15 dc15 pm15 cd15 ct15 : Value} (a15 : PySem.W.nsIn K mainGlobals "law" = some (some (.ref f15))) (l15 : K.lookup f15 = some ⟨oc15, od15, .func (PySem.W.fnOf "law" "law" (defArgs (topS 18)) (defBody (topS 18)) (defScope (topS 18)) .none kV15 dc15 pm15 an15 cd15 ct15), sl15⟩) (c15 : PySem.W.codeIn K cd15 "law" = true) (k15 : PySem.W.keepIn K (.ref f15) = true)
    {AG0 : Addr} {dG0 : Option Addr} {nG0 : Nat} {sG0 : Array (Option Value)} {AG0_0 : Addr} {dG0_0 : Option Addr} {nG0_0 : Nat} {sG0_0 : Array (Option Value)} {tG0_0_0 : Tok} {tG0_0_1 : Tok} {tG0_0_2 : Tok} {AG0_1 : Addr} {dG0_1 : Option Addr} {nG0_1 : Nat} {sG0_1 : Array (Option Value)} {tG0_1_0 : Tok} {tG0_1_1 : Tok} {tG0_1_2 : Tok} {AG0_2 : Addr} {dG0_2 : Option Addr} {nG0_2 : Nat} {sG0_2 : Array (Option Value)} {tG0_2_0 : Tok} {tG0_2_1 : Tok} {tG0_2_2 : Tok} {AG0_3 : Addr} {dG0_3 : Option Addr} {nG0_3 : Nat} {sG0_3 : Array (Option Value)} {tG0_3_0 : Tok} {tG0_3_1 : Tok} {tG0_3_2 : Tok} {AG0_4 : Addr} {dG0_4 : Option Addr} {nG0_4 : Nat} {sG0_4 : Array (Option Value)} {tG0_4_0 : Tok} {tG0_4_1 : Tok} {tG0_4_2 : Tok} {AG0_5 : Addr} {dG0_5 : Option Addr} {nG0_5 : Nat} {sG0_5 : Array (Option Value)} {tG0_5_0 : Tok} {tG0_5_1 : Tok} {tG0_5_2 : Tok} (ga0 : PySem.W.nsIn K mainGlobals "UNITS" = some (some (.ref AG0))) (hG0 : K.lookup AG0 = some ⟨.type "tuple", dG0, .seq #[(.ref AG0_0), (.ref AG0_1), (.ref AG0_2), (.ref AG0_3), (.ref AG0_4), (.ref AG0_5)] nG0, sG0⟩) (hG0_0 : K.lookup AG0_0 = some ⟨.type "tuple", dG0_0, .seq #[(.int (-1) tG0_0_0), (.int 0 tG0_0_1), (.int 0 tG0_0_2)] nG0_0, sG0_0⟩) (hG0_1 : K.lookup AG0_1 = some ⟨.type "tuple", dG0_1, .seq #[(.int 0 tG0_1_0), (.int (-1) tG0_1_1), (.int 0 tG0_1_2)] nG0_1, sG0_1⟩) (hG0_2 : K.lookup AG0_2 = some ⟨.type "tuple", dG0_2, .seq #[(.int 0 tG0_2_0), (.int 0 tG0_2_1), (.int (-1) tG0_2_2)] nG0_2, sG0_2⟩) (hG0_3 : K.lookup AG0_3 = some ⟨.type "tuple", dG0_3, .seq #[(.int 0 tG0_3_0), (.int 0 tG0_3_1), (.int 1 tG0_3_2)] nG0_3, sG0_3⟩) (hG0_4 : K.lookup AG0_4 = some ⟨.type "tuple", dG0_4, .seq #[(.int 0 tG0_4_0), (.int 1 tG0_4_1), (.int 0 tG0_4_2)] nG0_4, sG0_4⟩) (hG0_5 : K.lookup AG0_5 = some ⟨.type "tuple", dG0_5, .seq #[(.int 1 tG0_5_0), (.int 0 tG0_5_1), (.int 0 tG0_5_2)] nG0_5, sG0_5⟩)
    (z0 : PySem.W.nsIn K mainGlobals "len" = some none) (z1 : PySem.W.nsIn K mainGlobals "range" = some none) (z2 : PySem.W.nsIn K mainGlobals "list" = some none) (z3 : PySem.W.nsIn K mainGlobals "tuple" = some none) (z4 : PySem.W.nsIn K mainGlobals "sorted" = some none) (z5 : PySem.W.nsIn K mainGlobals "max" = some none) (z6 : PySem.W.nsIn K mainGlobals "min" = some none) (z7 : PySem.W.nsIn K mainGlobals "sum" = some none) (z8 : PySem.W.nsIn K mainGlobals "abs" = some none) (z9 : PySem.W.nsIn K mainGlobals "int" = some none) (z10 : PySem.W.nsIn K mainGlobals "all" = some none) (z11 : PySem.W.nsIn K mainGlobals "isinstance" = some none) (z12 : PySem.W.nsIn K mainGlobals "zip" = some none) (z13 : PySem.W.nsIn K mainGlobals "enumerate" = some none) (z14 : PySem.W.nsIn K mainGlobals "reversed" = some none) (z15 : PySem.W.nsIn K mainGlobals "str" = some none) (z16 : PySem.W.nsIn K mainGlobals "dict" = some none) (z17 : PySem.W.nsIn K mainGlobals "set" = some none) (z18 : PySem.W.nsIn K mainGlobals "bool" = some none) (z19 : PySem.W.nsIn K mainGlobals "ValueError" = some none) :
    ∃ fd : FuncData, (∀ (s : Shared) (v : Value), BindsTo s fd ⟨[v], []⟩ [("_law_script", v)]) ∧ ∀ base : Heap, K.In base → base.Ns mainGlobals mg → FnOk PySem.Challenge.pw_sheetfold_k02_twenty_four_turns w K mg base (L2.CX PySem.Challenge.pw_sheetfold_k02_twenty_four_turns w) 5 fa fd ["_law_script"] (lawSp K) := by
  have e := hfa.symm.trans (PySem.W.mg_of X G a15)
  cases e
  have blt : ∀ x ∈ blts, mg x = none := by
    intro x hx
    simp only [blts, List.mem_cons, List.mem_nil_iff, or_false] at hx
    rcases hx with rfl | rfl | rfl | rfl | rfl | rfl | rfl | rfl | rfl | rfl | rfl | rfl | rfl | rfl | rfl | rfl | rfl | rfl | rfl | rfl
    · exact PySem.W.mg_none_of X G z0
    · exact PySem.W.mg_none_of X G z1
    · exact PySem.W.mg_none_of X G z2
    · exact PySem.W.mg_none_of X G z3
    · exact PySem.W.mg_none_of X G z4
    · exact PySem.W.mg_none_of X G z5
    · exact PySem.W.mg_none_of X G z6
    · exact PySem.W.mg_none_of X G z7
    · exact PySem.W.mg_none_of X G z8
    · exact PySem.W.mg_none_of X G z9
    · exact PySem.W.mg_none_of X G z10
    · exact PySem.W.mg_none_of X G z11
    · exact PySem.W.mg_none_of X G z12
    · exact PySem.W.mg_none_of X G z13
    · exact PySem.W.mg_none_of X G z14
    · exact PySem.W.mg_none_of X G z15
    · exact PySem.W.mg_none_of X G z16
    · exact PySem.W.mg_none_of X G z17
    · exact PySem.W.mg_none_of X G z18
    · exact PySem.W.mg_none_of X G z19
  refine ⟨PySem.W.fnOf "law" "law" (defArgs (topS 18)) (defBody (topS 18)) (defScope (topS 18)) .none kV15 dc15 pm15 an15 cd15 ct15, fun s v => .of_eq rfl, fun base _ _ => ?_⟩
  have F0 := fun_toD (fun_mk (st := topS 13) l0 c0 k0)
  have B0 := Dfs.nil ((fun_mk (st := topS 13) l0 c0 k0).binds (ps := []) fun _ _ _ _ _ _ us hl => match us, hl with | [], _ => rfl)
  have D0 : DefOk PySem.Challenge.pw_sheetfold_k02_twenty_four_turns w K mg base 1 "_law_units" [] (.N .o .I) [[]] f__law_units := def_mk (F := fi__law_units) (c := ⟨[], [], []⟩) (PySem.W.mg_of X G a0) F0 B0 sc__law_units .nil .nil XOkF.none rfl ck__law_units blt (fun _ _ _ e => nomatch e) .nil
  have F1 := fun_toD (fun_mk (st := topS 12) l1 c1 k1)
  have B1 := Dfs.nil ((fun_mk (st := topS 12) l1 c1 k1).binds (ps := ["_law_one", "_law_other"]) fun _ _ _ _ _ _ us hl => match us, hl with | [_, _], _ => rfl)
  have D1 : DefOk PySem.Challenge.pw_sheetfold_k02_twenty_four_turns w K mg base 1 "_law_cross" [.I, .I] .I [[]] f__law_cross := def_mk (F := fi__law_cross) (c := ⟨[], [], []⟩) (PySem.W.mg_of X G a1) F1 B1 sc__law_cross .nil .nil XOkF.none rfl ck__law_cross blt (fun _ _ _ e => nomatch e) .nil
  have F2 := fun_toD (fun_mk (st := topS 14) l2 c2 k2)
  have B2 := Dfs.nil ((fun_mk (st := topS 14) l2 c2 k2).binds (ps := ["_law_cell"]) fun _ _ _ _ _ _ us hl => match us, hl with | [_], _ => rfl)
  have D2 : DefOk PySem.Challenge.pw_sheetfold_k02_twenty_four_turns w K mg base 2 "_law_turn" [.I] .I [[]] f__law_turn := def_mk (F := fi__law_turn) (c := ⟨[f__law_units, f__law_cross], [], []⟩) (PySem.W.mg_of X G a2) F2 B2 sc__law_turn (.cons 1 D0 (by decide) (.cons 1 D1 (by decide) .nil)) .nil XOkF.none rfl ck__law_turn blt (fun _ _ _ e => nomatch e) .nil
  have F3 := fun_toD (fun_mk (st := topS 9) l3 c3 k3)
  have B3 := Dfs.nil ((fun_mk (st := topS 9) l3 c3 k3).binds (ps := ["_law_script", "_law_k"]) fun _ _ _ _ _ _ us hl => match us, hl with | [_, _], _ => rfl)
  have D3 : DefOk PySem.Challenge.pw_sheetfold_k02_twenty_four_turns w K mg base 1 "_law_cell_at" [(.N .f .I), .I] .I [[]] f__law_cell_at := def_mk (F := fi__law_cell_at) (c := ⟨[], [], []⟩) (PySem.W.mg_of X G a3) F3 B3 sc__law_cell_at .nil .nil XOkF.none rfl ck__law_cell_at blt (fun _ _ _ e => nomatch e) .nil
  have F4 := fun_toD (fun_mk (st := topS 2) l4 c4 k4)
  have B4 := Dfs.nil ((fun_mk (st := topS 2) l4 c4 k4).binds (ps := ["one", "other"]) fun _ _ _ _ _ _ us hl => match us, hl with | [_, _], _ => rfl)
  have D4 : DefOk PySem.Challenge.pw_sheetfold_k02_twenty_four_turns w K mg base 1 "cross" [(.N .f .I), (.N .f .I)] .I [[]] f_cross := def_mk (F := fi_cross) (c := ⟨[], [], []⟩) (PySem.W.mg_of X G a4) F4 B4 sc_cross .nil .nil XOkF.none rfl ck_cross blt (fun _ _ _ e => nomatch e) .nil
  have F5 := fun_toD (fun_mk (st := topS 3) l5 c5 k5)
  have B5 := Dfs.nil ((fun_mk (st := topS 3) l5 c5 k5).binds (ps := ["one", "other"]) fun _ _ _ _ _ _ us hl => match us, hl with | [_, _], _ => rfl)
  have D5 : DefOk PySem.Challenge.pw_sheetfold_k02_twenty_four_turns w K mg base 2 "same_axis" [(.N .f .I), (.N .f .I)] .I [[]] f_same_axis := def_mk (F := fi_same_axis) (c := ⟨[f_cross], [], []⟩) (PySem.W.mg_of X G a5) F5 B5 sc_same_axis (.cons 1 D4 (by decide) .nil) .nil XOkF.none rfl ck_same_axis blt (fun _ _ _ e => nomatch e) .nil
  have F6 := fun_toD (fun_mk (st := topS 7) l6 c6 k6)
  have B6 := Dfs.nil ((fun_mk (st := topS 7) l6 c6 k6).binds (ps := []) fun _ _ _ _ _ _ us hl => match us, hl with | [], _ => rfl)
  have D6 : DefOk PySem.Challenge.pw_sheetfold_k02_twenty_four_turns w K mg base 3 "all_turns" [] (.N .o .I) [[]] f_all_turns := def_mk (F := fi_all_turns) (c := ⟨[f_same_axis, f_cross], [g_UNITS], []⟩) (PySem.W.mg_of X G a6) F6 B6 sc_all_turns (.cons 2 D5 (by decide) (.cons 1 D4 (by decide) .nil)) (.cons (PySem.W.mg_of X G ga0) (GV.tup hG0 (GVs.cons (GV.tup hG0_0 (GVs.cons GV.int (GVs.cons GV.int (GVs.cons GV.int GVs.nil))) (szOk rfl)) (GVs.cons (GV.tup hG0_1 (GVs.cons GV.int (GVs.cons GV.int (GVs.cons GV.int GVs.nil))) (szOk rfl)) (GVs.cons (GV.tup hG0_2 (GVs.cons GV.int (GVs.cons GV.int (GVs.cons GV.int GVs.nil))) (szOk rfl)) (GVs.cons (GV.tup hG0_3 (GVs.cons GV.int (GVs.cons GV.int (GVs.cons GV.int GVs.nil))) (szOk rfl)) (GVs.cons (GV.tup hG0_4 (GVs.cons GV.int (GVs.cons GV.int (GVs.cons GV.int GVs.nil))) (szOk rfl)) (GVs.cons (GV.tup hG0_5 (GVs.cons GV.int (GVs.cons GV.int (GVs.cons GV.int GVs.nil))) (szOk rfl)) GVs.nil)))))) (szOk rfl)) .nil) XOkF.none rfl ck_all_turns blt (fun _ _ _ e => nomatch e) .nil
  have F7 := fun_toD (fun_mk (st := topS 10) l7 c7 k7)
  have B7 := Dfs.nil ((fun_mk (st := topS 10) l7 c7 k7).binds (ps := ["_law_found"]) fun _ _ _ _ _ _ us hl => match us, hl with | [_], _ => rfl)
  have D7 : DefOk PySem.Challenge.pw_sheetfold_k02_twenty_four_turns w K mg base 1 "_law_whole" [.I] .I [[]] f__law_whole := def_mk (F := fi__law_whole) (c := ⟨[], [], []⟩) (PySem.W.mg_of X G a7) F7 B7 sc__law_whole .nil .nil XOkF.none rfl ck__law_whole blt (fun _ _ _ e => nomatch e) .nil
  have F8 := fun_toD (fun_mk (st := topS 11) l8 c8 k8)
  have B8 := Dfs.nil ((fun_mk (st := topS 11) l8 c8 k8).binds (ps := ["_law_found", "_law_due"]) fun _ _ _ _ _ _ us hl => match us, hl with | [_, _], _ => rfl)
  have D8 : DefOk PySem.Challenge.pw_sheetfold_k02_twenty_four_turns w K mg base 2 "_law_triple" [.I, .I] .I [[]] f__law_triple := def_mk (F := fi__law_triple) (c := ⟨[f__law_whole], [], []⟩) (PySem.W.mg_of X G a8) F8 B8 sc__law_triple (.cons 1 D7 (by decide) .nil) .nil XOkF.none rfl ck__law_triple blt (fun _ _ _ e => nomatch e) .nil
  have F9 := fun_toD (fun_mk (st := topS 15) l9 c9 k9)
  have B9 := Dfs.nil ((fun_mk (st := topS 15) l9 c9 k9).binds (ps := ["_law_found", "_law_due"]) fun _ _ _ _ _ _ us hl => match us, hl with | [_, _], _ => rfl)
  have D9 : DefOk PySem.Challenge.pw_sheetfold_k02_twenty_four_turns w K mg base 3 "_law_turn_alike" [.I, .I] .I [[]] f__law_turn_alike := def_mk (F := fi__law_turn_alike) (c := ⟨[f__law_triple], [], []⟩) (PySem.W.mg_of X G a9) F9 B9 sc__law_turn_alike (.cons 2 D8 (by decide) .nil) .nil XOkF.none rfl ck__law_turn_alike blt (fun _ _ _ e => nomatch e) .nil
  have F10 := fun_toD (fun_mk (st := topS 17) l10 c10 k10)
  have B10 := Dfs.nil ((fun_mk (st := topS 17) l10 c10 k10).binds (ps := ["_law_found"]) fun _ _ _ _ _ _ us hl => match us, hl with | [_], _ => rfl)
  have D10 : DefOk PySem.Challenge.pw_sheetfold_k02_twenty_four_turns w K mg base 4 "_law_turns_right" [(.N .f .I)] .I [[]] f__law_turns_right := def_mk (F := fi__law_turns_right) (c := ⟨[f__law_units, f__law_turn_alike, f__law_cross], [], []⟩) (PySem.W.mg_of X G a10) F10 B10 sc__law_turns_right (.cons 1 D0 (by decide) (.cons 3 D9 (by decide) (.cons 1 D1 (by decide) .nil))) .nil XOkF.none rfl ck__law_turns_right blt (fun _ _ _ e => nomatch e) .nil
  have F11 := fun_toD (fun_mk (st := topS 4) l11 c11 k11)
  have B11 := Dfs.nil ((fun_mk (st := topS 4) l11 c11 k11).binds (ps := ["thing"]) fun _ _ _ _ _ _ us hl => match us, hl with | [_], _ => rfl)
  have D11 : DefOk PySem.Challenge.pw_sheetfold_k02_twenty_four_turns w K mg base 1 "is_whole" [(.N .f .I)] .I [[]] f_is_whole := def_mk (F := fi_is_whole) (c := ⟨[], [], []⟩) (PySem.W.mg_of X G a11) F11 B11 sc_is_whole .nil .nil XOkF.none rfl ck_is_whole blt (fun _ _ _ e => nomatch e) .nil
  have F12 := fun_toD (fun_mk (st := topS 5) l12 c12 k12)
  have B12 := Dfs.nil ((fun_mk (st := topS 5) l12 c12 k12).binds (ps := ["thing"]) fun _ _ _ _ _ _ us hl => match us, hl with | [_], _ => rfl)
  have D12 : DefOk PySem.Challenge.pw_sheetfold_k02_twenty_four_turns w K mg base 2 "is_unit" [(.N .f .I)] .I [[]] f_is_unit := def_mk (F := fi_is_unit) (c := ⟨[f_is_whole], [g_UNITS], []⟩) (PySem.W.mg_of X G a12) F12 B12 sc_is_unit (.cons 1 D11 (by decide) .nil) (.cons (PySem.W.mg_of X G ga0) (GV.tup hG0 (GVs.cons (GV.tup hG0_0 (GVs.cons GV.int (GVs.cons GV.int (GVs.cons GV.int GVs.nil))) (szOk rfl)) (GVs.cons (GV.tup hG0_1 (GVs.cons GV.int (GVs.cons GV.int (GVs.cons GV.int GVs.nil))) (szOk rfl)) (GVs.cons (GV.tup hG0_2 (GVs.cons GV.int (GVs.cons GV.int (GVs.cons GV.int GVs.nil))) (szOk rfl)) (GVs.cons (GV.tup hG0_3 (GVs.cons GV.int (GVs.cons GV.int (GVs.cons GV.int GVs.nil))) (szOk rfl)) (GVs.cons (GV.tup hG0_4 (GVs.cons GV.int (GVs.cons GV.int (GVs.cons GV.int GVs.nil))) (szOk rfl)) (GVs.cons (GV.tup hG0_5 (GVs.cons GV.int (GVs.cons GV.int (GVs.cons GV.int GVs.nil))) (szOk rfl)) GVs.nil)))))) (szOk rfl)) .nil) XOkF.none rfl ck_is_unit blt (fun _ _ _ e => nomatch e) .nil
  have F13 := fun_toD (fun_mk (st := topS 6) l13 c13 k13)
  have B13 := Dfs.nil ((fun_mk (st := topS 6) l13 c13 k13).binds (ps := ["thing"]) fun _ _ _ _ _ _ us hl => match us, hl with | [_], _ => rfl)
  have D13 : DefOk PySem.Challenge.pw_sheetfold_k02_twenty_four_turns w K mg base 3 "is_turn" [(.N .f .I)] .I [[]] f_is_turn := def_mk (F := fi_is_turn) (c := ⟨[f_is_unit, f_same_axis, f_cross], [], []⟩) (PySem.W.mg_of X G a13) F13 B13 sc_is_turn (.cons 2 D12 (by decide) (.cons 2 D5 (by decide) (.cons 1 D4 (by decide) .nil))) .nil XOkF.none rfl ck_is_turn blt (fun _ _ _ e => nomatch e) .nil
  have F14 := fun_toD (fun_mk (st := topS 16) l14 c14 k14)
  have B14 := Dfs.nil ((fun_mk (st := topS 16) l14 c14 k14).binds (ps := ["_law_turn_here", "_law_kind", "_law_at"]) fun _ _ _ _ _ _ us hl => match us, hl with | [_, _, _], _ => rfl)
  have D14 : DefOk PySem.Challenge.pw_sheetfold_k02_twenty_four_turns w K mg base 1 "_law_odd" [.I, .I, .I] (.N .r .I) [[]] f__law_odd := def_mk (F := fi__law_odd) (c := ⟨[], [], []⟩) (PySem.W.mg_of X G a14) F14 B14 sc__law_odd .nil .nil XOkF.none rfl ck__law_odd blt (fun _ _ _ e => nomatch e) .nil
  have F15 := fun_toD (fun_mk (st := topS 18) l15 c15 k15)
  have B15 := Dfs.nil ((fun_mk (st := topS 18) l15 c15 k15).binds (ps := ["_law_script"]) fun _ _ _ _ _ _ us hl => match us, hl with | [_], _ => rfl)
  refine (def_ok (F := fi_law) (c := ⟨[f__law_turn, f__law_cell_at, f_all_turns, f__law_turns_right, f_is_turn, f__law_odd], [], []⟩) F15 sc_law (CallsL.ok (.cons 2 D2 (by decide) (.cons 1 D3 (by decide) (.cons 3 D6 (by decide) (.cons 4 D10 (by decide) (.cons 3 D13 (by decide) (.cons 1 D14 (by decide) .nil)))))) .nil rfl XOkF.none blt (fun _ _ _ e => nomatch e) .nil) rfl ck_law blt).imp fun vs H Q E hs => ?_
  obtain ⟨a, ns, rfl, hS, h5, h6, hq⟩ := hs
  exact law_spQ (law_true ns h5 h6) hS hq
end
end K02
open PySem PySem.W PyProof.Rows
set_option maxHeartbeats 0 in
theorem PySem.Challenge.cw_sheetfold_k02_twenty_four_turns_holds : PySem.Challenge.rw_sheetfold_k02_twenty_four_turns.Holds := by
  w_on; o_law; k_head; (case hw => w_witness2)
  k_fill
  refine L2.walk_ofB (l := PySem.Challenge.rw_sheetfold_k02_twenty_four_turns) (n := 63) (k := 5) (x := "_law_script") (CX := fun w => L2.CX PySem.Challenge.pw_sheetfold_k02_twenty_four_turns w) (sp := fun w => En.lawSp _) rfl (by decide) rfl ⟨rfl, by decide, by decide⟩ (fun w h Y => PySem.W.kIn_of Y) ?F (fun _ _ a ns hl hb _ hS => ⟨a, ns, rfl, hS, hl, hb, fun _ => rfl⟩) (fun _ _ _ _ _ h => En.cx_false h)
  case F =>
    intro w mg fa h KX G hmg
    refine' K02.all_mk KX G hmg ?a0 ?l0 ?c0 ?k0 ?a1 ?l1 ?c1 ?k1 ?a2 ?l2 ?c2 ?k2 ?a3 ?l3 ?c3 ?k3 ?a4 ?l4 ?c4 ?k4 ?a5 ?l5 ?c5 ?k5 ?a6 ?l6 ?c6 ?k6 ?a7 ?l7 ?c7 ?k7 ?a8 ?l8 ?c8 ?k8 ?a9 ?l9 ?c9 ?k9 ?a10 ?l10 ?c10 ?k10 ?a11 ?l11 ?c11 ?k11 ?a12 ?l12 ?c12 ?k12 ?a13 ?l13 ?c13 ?k13 ?a14 ?l14 ?c14 ?k14 ?a15 ?l15 ?c15 ?k15 ?ga0 ?hG0 ?hG0_0 ?hG0_1 ?hG0_2 ?hG0_3 ?hG0_4 ?hG0_5 ?z0 ?z1 ?z2 ?z3 ?z4 ?z5 ?z6 ?z7 ?z8 ?z9 ?z10 ?z11 ?z12 ?z13 ?z14 ?z15 ?z16 ?z17 ?z18 ?z19
    (case a0 => k_is)
    (case l0 => k_is)
    (case c0 => k_is)
    (case k0 => k_is)
    (case a1 => k_is)
    (case l1 => k_is)
    (case c1 => k_is)
    (case k1 => k_is)
    (case a2 => k_is)
    (case l2 => k_is)
    (case c2 => k_is)
    (case k2 => k_is)
    (case a3 => k_is)
    (case l3 => k_is)
    (case c3 => k_is)
    (case k3 => k_is)
    (case a4 => k_is)
    (case l4 => k_is)
    (case c4 => k_is)
    (case k4 => k_is)
    (case a5 => k_is)
    (case l5 => k_is)
    (case c5 => k_is)
    (case k5 => k_is)
    (case a6 => k_is)
    (case l6 => k_is)
    (case c6 => k_is)
    (case k6 => k_is)
    (case a7 => k_is)
    (case l7 => k_is)
    (case c7 => k_is)
    (case k7 => k_is)
    (case a8 => k_is)
    (case l8 => k_is)
    (case c8 => k_is)
    (case k8 => k_is)
    (case a9 => k_is)
    (case l9 => k_is)
    (case c9 => k_is)
    (case k9 => k_is)
    (case a10 => k_is)
    (case l10 => k_is)
    (case c10 => k_is)
    (case k10 => k_is)
    (case a11 => k_is)
    (case l11 => k_is)
    (case c11 => k_is)
    (case k11 => k_is)
    (case a12 => k_is)
    (case l12 => k_is)
    (case c12 => k_is)
    (case k12 => k_is)
    (case a13 => k_is)
    (case l13 => k_is)
    (case c13 => k_is)
    (case k13 => k_is)
    (case a14 => k_is)
    (case l14 => k_is)
    (case c14 => k_is)
    (case k14 => k_is)
    (case a15 => k_is)
    (case l15 => k_is)
    (case c15 => k_is)
    (case k15 => k_is)
    (case ga0 => k_is)
    (case hG0 => k_is)
    (case hG0_0 => k_is)
    (case hG0_1 => k_is)
    (case hG0_2 => k_is)
    (case hG0_3 => k_is)
    (case hG0_4 => k_is)
    (case hG0_5 => k_is)
    (case z0 => k_is)
    (case z1 => k_is)
    (case z2 => k_is)
    (case z3 => k_is)
    (case z4 => k_is)
    (case z5 => k_is)
    (case z6 => k_is)
    (case z7 => k_is)
    (case z8 => k_is)
    (case z9 => k_is)
    (case z10 => k_is)
    (case z11 => k_is)
    (case z12 => k_is)
    (case z13 => k_is)
    (case z14 => k_is)
    (case z15 => k_is)
    (case z16 => k_is)
    (case z17 => k_is)
    (case z18 => k_is)
    (case z19 => k_is)

