import PyProof.Rows.All
import HandS.ForMost
import HandS.ForExc
import KE.KDictPairs
import KE.KDictLaw
import HandS.TupMul
import HandS.Style
import HandS.IsInst
import HandS.SortInts
import PyProof.Rows.SortShellAny
import HandS.List
import HandS.Text
import HandS.Replace
import HandS.ReplaceList
import KE.KAsSuite
import KE.KRevSl
import HandS.Set
import HandS.SetTxt0
import PyProof.Rows.SortStr
import PyProof.FactsAll.subtypes_3
import PyProof.EnumMake
import PyProof.AssignAttr
import KE.KCallOwn
import PyProof.EnumFor
import HandS.Zip0
import KE.KOwnIter
import HandS.IterNext
import PyProof.Rows.Range3
import HandS.Comp
import PyProof.RulesMatch
import PyProof.RulesMatchSeq
import PyProof.Rows.MatchSeqLen
import HandS.EndBits
import HandS.HeadNt
import HandS.Words
import PySem.Challenge.RW_replacelists_k14_whole_reading_is_the_re
set_option Elab.async false
set_option linter.all false
set_option maxRecDepth 100000
section
set_option linter.all false
/-! Core1: structural values, an IR of the Python subset (slots for names, no positions), its interpreter. -/
namespace Q

abbrev Tx := List Nat
abbrev LIM : Nat := 16777216

/-- a value: what never changes is held by its structure; ref i is the i-th changeable object -/
inductive AV where
  | non | bl (b : Bool) | int (i : Int) | str (s : Tx)
  | tup (xs : List AV) | lst (xs : List AV)
  | ref (i : Nat)
  | ins (c : String) (ns : List String) (vs : List AV)
  | dct (ks vs : List AV)
  | ty (n : String) | fn (n : String)
  | scr (ns : List Int)
  deriving Inhabited

/-- fz: never written again; fr: new, nobody else has it; bo i: slot i has it and may write it -/
inductive Md where
  | fz | fr | bo (i : Nat)

structure S where
  sl : List (Option (AV × Bool))
  hp : List AV

inductive Res (α : Type) where
  | stuck
  | exc (x : AV) (s : S)
  | ok (a : α) (s : S)

def Res.bind {α β : Type} : Res α → (α → S → Res β) → Res β
  | .stuck, _ => .stuck
  | .exc x s, _ => .exc x s
  | .ok a s, f => f a s
@[simp] theorem Res.bind_ok {α β : Type} (a : α) (s : S) (f : α → S → Res β) : (Res.ok a s).bind f = f a s := rfl
@[simp] theorem Res.bind_stuck {α β : Type} (f : α → S → Res β) : (Res.stuck : Res α).bind f = .stuck := rfl
@[simp] theorem Res.bind_exc {α β : Type} (x : AV) (s : S) (f : α → S → Res β) : (Res.exc x s : Res α).bind f = .exc x s := rfl

/-- a def's answer -/
inductive FR where
  | stuck
  | exc (x : AV) (hp : List AV)
  | ok (v : AV) (fresh : Bool) (hp : List AV)

abbrev Oracle := String → List AV → List AV → FR

def S.get (s : S) (i : Nat) : Option (AV × Bool) := (s.sl[i]?).getD none
def S.frz (s : S) (i : Nat) : S :=
  match s.get i with
  | some (v, true) => { s with sl := s.sl.set i (some (v, false)) }
  | _ => s
def S.esc (s : S) : Md → S
  | .bo i => s.frz i
  | _ => s
def S.put (s : S) (i : Nat) (v : AV) (own : Bool) : S := { s with sl := s.sl.set i (some (v, own)) }
def S.hset (s : S) (k : Nat) (v : AV) : S := { s with hp := s.hp.set k v }
def wipeL : List (Option (AV × Bool)) → List Nat → List (Option (AV × Bool))
  | l, [] => l
  | l, i :: r => (wipeL l r).set i none
def S.wipe (s : S) (own : List Nat) : S := { s with sl := wipeL s.sl own }

inductive BOp where
  | add | sub | mul | fdiv | mod | pow
inductive COp where
  | lt | le | gt | ge | eq | ne | is_ | isnot | isin | notin

inductive BF where
  | len | int | list | tuple | sorted | isinst | max | min | dict
inductive BM where
  | join | startswith | replace | pop | get
inductive ITg where
  | nm (i : Nat)
  | tp (is : List Nat)

inductive IE where
  | c (v : AV)
  | v (i : Nat)
  | bin (o : BOp) (a b : IE)
  | neg (a : IE)
  | not_ (a : IE)
  | cmp (o : COp) (a b : IE)
  | chain (o p : COp) (a b d : IE)
  | and_ (es : List IE)
  | or_ (es : List IE)
  | ife (t a b : IE)
  | tup (es : List IE)
  | lst (es : List IE)
  | call (f : String) (es : List IE)
  | bcall (f : BF) (es : List IE)
  | meth (o : IE) (m : BM) (es : List IE)
  | ix (a i : IE)
  | sl (a lo hi : IE)
  | attr (o : IE) (f : String) (cs : List String)
  | dun (d : String) (cs : List String) (o : IE) (es : List IE)
  | lc (elt : IE) (own : List Nat) (t : ITg) (it : IE) (cs : List IE)
  | rng1 (a : IE)
  | rng2 (a b : IE)
  | enum (a : IE)
  | zip (a b : IE)
  | sset (a : IE)
  | zipi (c f : String) (a b : IE)
  | rev (a : IE)

inductive IPat where
  | seq (ps : List IPat)
  | val (s : Tx)
  | cap (i : Nat)
  | any

inductive IS where
  | asg (t : ITg) (e : IE)
  | asgr (i : Nat) (e : IE)
  | aset (j : Nat) (i e : IE)
  | fset (o : IE) (f : String) (e : IE)
  | expr (e : IE)
  | app (i : Nat) (e : IE)
  | ret (e : IE)
  | retN
  | ite (t : IE) (a b : List IS)
  | for_ (t : ITg) (it : IE) (body : List IS)
  | whl (t : IE) (body : List IS)
  | brk | cnt | pass
  | mtch (e : IE) (ps : List IPat) (bs : List (List IS))
  | stk

inductive Fl where
  | nx | bk | ct
  | rt (v : AV) (md : Md)

/-! ### values -/
mutual
def plainN : Nat → AV → Bool
  | _, .non => true
  | _, .int _ => true
  | _, .str _ => true
  | n + 1, .tup xs => plainLN n xs
  | n + 1, .lst xs => plainLN n xs
  | _, _ => false
def plainLN : Nat → List AV → Bool
  | _, [] => true
  | n, x :: r => plainN n x && plainLN n r
end
/-- None, ints, texts, and tuples and lists of them -/
def plain (v : AV) : Bool := plainN 40 v
def plainL (vs : List AV) : Bool := plainLN 39 vs
open Classical in
noncomputable def eqA : AV → AV → Option Bool
  | .bl x, .bl y => some (x == y)
  | a, b => if plain a = true ∧ plain b = true then some (decide (a = b)) else none
open Classical in
noncomputable def inA (v : AV) (xs : List AV) : Option Bool :=
  if plain v = true ∧ plainL xs = true then some (decide (v ∈ xs)) else none

def truth : AV → Option Bool
  | .non => some false
  | .bl b => some b
  | .int i => some (decide (i ≠ 0))
  | .str s => some (!s.isEmpty)
  | .lst xs => some (!xs.isEmpty)
  | .tup xs => some (!xs.isEmpty)
  | _ => none

/-- xs[i] -/
def atX {α : Type} (xs : List α) (i : Int) : Option α :=
  if 0 ≤ i then xs[i.toNat]? else if -(xs.length : Int) ≤ i then xs[(i + xs.length).toNat]? else none
def ixX (n : Nat) (i : Int) : Option Nat :=
  if 0 ≤ i then (if i < n then some i.toNat else none) else if -(n : Int) ≤ i then some (i + n).toNat else none
/-- the bound of a slice -/
def clampX (n d : Nat) : AV → Option Nat
  | .non => some d
  | .int v => some (if v < 0 then (v + n).toNat else min v.toNat n)
  | _ => none
def cutX {α : Type} (xs : List α) (lo hi : AV) : Option (List α) :=
  match clampX xs.length 0 lo, clampX xs.length xs.length hi with
  | some a, some b => some ((xs.drop a).take (b - a))
  | _, _ => none

def small64 (i : Int) : Prop := -(2 ^ 64) < i ∧ i < 2 ^ 64
instance (i : Int) : Decidable (small64 i) := by unfold small64; infer_instance

/-- a guard that the kernel does not reckon out -/
noncomputable def grd {α : Type} (p : Prop) (a : α) : Option α := @ite _ p (Classical.propDecidable p) (some a) none
theorem grd_eq {α : Type} (p : Prop) [Decidable p] (a : α) : grd p a = if p then some a else none := by
  unfold grd
  by_cases h : p
  · rw [if_pos h, if_pos h]
  · rw [if_neg h, if_neg h]
noncomputable def bop : BOp → AV → AV → Option (AV × Bool)
  | .add, .int i, .int j => some (.int (i + j), false)
  | .sub, .int i, .int j => some (.int (i - j), false)
  | .mul, .int i, .int j => grd (small64 i ∨ small64 j) (.int (i * j), false)
  | .fdiv, .int i, .int j => grd (j ≠ 0 ∧ j.natAbs < 1073741824) (.int (i.fdiv j), false)
  | .mod, .int i, .int j => grd (j ≠ 0) (.int (i.fmod j), false)
  | .pow, .int i, .int j => grd (0 ≤ j ∧ j ≤ 1000000 ∧ i.natAbs < 2 ^ 64) (.int (i ^ j.toNat), false)
  | .add, .str x, .str y => grd (x.length + y.length ≤ LIM) (.str (x ++ y), false)
  | .add, .lst x, .lst y => grd (x.length + y.length ≤ LIM) (.lst (x ++ y), true)
  | .add, .tup x, .tup y => grd (x ≠ [] ∧ x.length + y.length ≤ LIM) (.tup (x ++ y), false)
  | .mul, .str x, .int k => grd (x.length * k.toNat ≤ LIM ∧ -(2 ^ 63) ≤ k ∧ k < 2 ^ 63) (.str (List.replicate k.toNat x).flatten, false)
  | .mul, .lst x, .int k => grd (x.length * k.toNat ≤ LIM ∧ -(2 ^ 63) ≤ k ∧ k < 2 ^ 63) (.lst (List.replicate k.toNat x).flatten, true)
  | .mul, .tup x, .int k => grd (x ≠ [] ∧ 0 ≤ k ∧ k < 2 ^ 62 ∧ x.length * k.toNat ≤ LIM) (.tup (List.replicate k.toNat x).flatten, false)
  | _, _, _ => none

def isNon : AV → Bool
  | .non => true
  | _ => false
open Classical in
noncomputable def cop : COp → AV → AV → Option Bool
  | .eq, a, b => eqA a b
  | .ne, a, b => (eqA a b).map (!·)
  | .lt, .int i, .int j => some (decide (i < j))
  | .lt, .str x, .str y => some (decide (x < y))
  | .le, .int i, .int j => some (decide (i ≤ j))
  | .gt, .int i, .int j => some (decide (j < i))
  | .ge, .int i, .int j => some (decide (j ≤ i))
  | .is_, .bl x, .bl y => some (x == y)
  | .is_, a, .non => some (isNon a)
  | .isnot, .bl x, .bl y => some (!(x == y))
  | .isnot, a, .non => some (!isNon a)
  | .isin, .str x, .str y => some (decide (x <:+: y))
  | .isin, a, .lst ys => inA a ys
  | .isin, a, .tup ys => inA a ys
  | .notin, .str x, .str y => some (!decide (x <:+: y))
  | .notin, a, .lst ys => (inA a ys).map (!·)
  | .notin, a, .tup ys => (inA a ys).map (!·)
  | _, _, _ => none

/-! ### texts -/
/-- the text joined from texts -/
def strsOf : List AV → Option (List Tx)
  | [] => some []
  | .str s :: r => (strsOf r).map (s :: ·)
  | _ :: _ => none
def intsOf : List AV → Option (List Int)
  | [] => some []
  | .int i :: r => (intsOf r).map (i :: ·)
  | _ :: _ => none
def joinX (sep : Tx) : List Tx → Tx
  | [] => []
  | [x] => x
  | x :: r => x ++ sep ++ joinX sep r
/-- replace; the number: how many signs are still to be passed over -/
def replS (old new : Tx) : Nat → Tx → Tx
  | _, [] => []
  | 0, c :: r => if old.isPrefixOf (c :: r) then new ++ replS old new (old.length - 1) r else c :: replS old new 0 r
  | k + 1, _ :: r => replS old new k r
def replX (old new t : Tx) : Tx := replS old new 0 t
def findX (sub : Tx) : Tx → Nat → Option Nat
  | t, k => if sub.isPrefixOf t then some k else match t with
    | [] => none
    | _ :: r => findX sub r (k + 1)

/-- the ints in ascending order -/
def sortI (ns : List Int) : List Int := ns.mergeSort (fun a b => decide (a ≤ b))

/-! ### built-in functions -/
/-- the built-in class of a value -/
def kindV : AV → Option String
  | .non => some "NoneType"
  | .bl _ => some "bool"
  | .int _ => some "int"
  | .str _ => some "str"
  | .tup _ => some "tuple"
  | .lst _ => some "list"
  | _ => none
def tys : List String := ["int", "bool", "str", "tuple", "list"]
def isInst (v : AV) (n : String) : Option Bool :=
  if n ∈ tys then (kindV v).map fun a => a == n || (a == "bool" && n == "int") else none
def lenH : Option AV → Option (AV × Bool)
  | some (.lst xs) => some (.int xs.length, false)
  | _ => none
/-- the greatest int -/
def maxI : List Int → Int
  | [] => 0
  | n :: r => r.foldl max n
def maxO : List Int → Option (AV × Bool)
  | [] => none
  | n :: r => some (.int (maxI (n :: r)), false)
/-- pairs of a text and a value -/
def pairsOf : List AV → Option (List (Tx × AV))
  | [] => some []
  | .tup [.str k, v] :: r => (pairsOf r).map ((k, v) :: ·)
  | _ :: _ => none
def dctO (q : List (Tx × AV)) : Option (AV × Bool) := if (q.map (·.1)).Nodup then some (.dct (q.map fun p => .str p.1) (q.map (·.2)), false) else none
/-- d.get(k, x) -/
def dgetX : List AV → List AV → Tx → AV → AV
  | .str a :: ks, v :: vs, k, x => if a = k then v else dgetX ks vs k x
  | _, _, _, x => x
def bfun : BF → List AV → List AV → Option (AV × Bool)
  | .len, [.str s], _ => some (.int s.length, false)
  | .len, [.lst xs], _ => some (.int xs.length, false)
  | .len, [.tup xs], _ => some (.int xs.length, false)
  | .len, [.scr ns], _ => some (.int ns.length, false)
  | .len, [.ref i], hp => lenH hp[i]?
  | .int, [.int i], _ => some (.int i, false)
  | .int, [.bl b], _ => some (.int (if b then 1 else 0), false)
  | .list, [.lst xs], _ => some (.lst xs, true)
  | .list, [.tup xs], _ => some (.lst xs, true)
  | .list, [.scr ns], _ => some (.lst (ns.map .int), true)
  | .tuple, [.lst xs], _ => some (.tup xs, false)
  | .tuple, [.tup xs], _ => some (.tup xs, false)
  | .sorted, [.lst xs], _ => (intsOf xs).map fun ns => (.lst ((sortI ns).map .int), true)
  | .isinst, [v, .ty n], _ => (isInst v n).map fun b => (.bl b, false)
  | .max, [.int i, .int j], _ => some (.int (if j > i then j else i), false)
  | .min, [.int i, .int j], _ => some (.int (if j < i then j else i), false)
  | .max, [.lst xs], _ => (intsOf xs).bind maxO
  | .dict, [.tup ps], _ => (pairsOf ps).bind dctO
  | _, _, _ => none

/-- a method of a built-in value -/
noncomputable def joinO (a : Tx) (o : Option (List Tx)) : Option (AV × Bool) :=
  o.bind fun ys => grd ((ys.map (·.length)).sum + ys.length * a.length ≤ LIM) (.str (joinX a ys), false)
noncomputable def bmeth : BM → AV → List AV → Option (AV × Bool)
  | .join, .str a, [.lst xs] => joinO a (strsOf xs)
  | .startswith, .str a, [.str b] => some (.bl (b.isPrefixOf a), false)
  | .replace, .str a, [.str o, .str n] => grd (o ≠ [] ∧ (replX o n a).length + a.length ≤ LIM) (.str (replX o n a), false)
  | .get, .dct ks vs, [.str k, .str x] => some (dgetX ks vs k (.str x), false)
  | _, _, _ => none
/-- a method of a changeable list -/
def hpop (xs : List AV) (i : Int) : Option (AV × List AV) :=
  (ixX xs.length i).bind fun j => if -(2 ^ 63) ≤ i ∧ i < 2 ^ 63 then xs[j]?.map fun y => (y, xs.eraseIdx j) else none
def hmeth : BM → Option AV → List AV → Option (AV × AV)
  | .pop, some (.lst xs), [.int i] => (hpop xs i).map fun p => (p.1, .lst p.2)
  | _, _, _ => none
def isLst : Option AV → Bool
  | some (.lst _) => true
  | _ => false
/-- a changeable receiver is a list -/
def recvOk : AV → List AV → Bool
  | .ref k, hp => isLst hp[k]?
  | _, _ => true
def ixH : Option AV → Int → Option AV
  | some (.lst xs), i => atX xs i
  | _, _ => none
def ixV : AV → AV → List AV → Option AV
  | .lst xs, .int i, _ => atX xs i
  | .tup xs, .int i, _ => atX xs i
  | .str xs, .int i, _ => (atX xs i).map fun c => .str [c]
  | .ref k, .int i, hp => ixH hp[k]? i
  | _, _, _ => none
/-- x[::-1] -/
def revV : AV → Option (AV × Bool)
  | .lst xs => some (.lst xs.reverse, true)
  | .tup xs => some (.tup xs.reverse, false)
  | _ => none
@[simp] theorem revV_l (xs : List AV) : revV (.lst xs) = some (.lst xs.reverse, true) := rfl
@[simp] theorem revV_t (xs : List AV) : revV (.tup xs) = some (.tup xs.reverse, false) := rfl
def slV : AV → AV → AV → Option (AV × Bool)
  | .lst xs, l, h => (cutX xs l h).map fun z => (.lst z, true)
  | .tup xs, l, h => (cutX xs l h).bind fun z => if z.length < xs.length then some (.tup z, false) else none
  | .str xs, l, h => (cutX xs l h).map fun z => (.str z, false)
  | _, _, _ => none

/-! ### loops -/
def forI (body : AV → S → Res Fl) : List AV → S → Res Fl
  | [], s => .ok .nx s
  | x :: r, s => match body x s with
    | .ok .nx s' => forI body r s'
    | .ok .ct s' => forI body r s'
    | .ok .bk s' => .ok .nx s'
    | .ok (.rt v md) s' => .ok (.rt v md) s'
    | .exc x s' => .exc x s'
    | .stuck => .stuck
/-- a comprehension's turns: what is kept of each -/
def lcI (f : AV → S → Res (Option AV)) : List AV → List AV → S → Res (List AV)
  | [], acc, s => .ok acc s
  | x :: r, acc, s => match f x s with
    | .ok (some y) s' => if acc.length < LIM then lcI f r (acc ++ [y]) s' else .stuck
    | .ok none s' => lcI f r acc s'
    | .exc x s' => .exc x s'
    | .stuck => .stuck
def loopN (f : S → Res (Option Fl)) : Nat → S → Res Fl
  | 0, _ => .stuck
  | n + 1, s => match f s with
    | .ok none s' => loopN f n s'
    | .ok (some fl) s' => .ok fl s'
    | .exc x s' => .exc x s'
    | .stuck => .stuck
open Classical in
noncomputable def whlI (f : S → Res (Option Fl)) (s : S) : Res Fl :=
  if h : ∃ n, loopN f n s ≠ .stuck then loopN f h.choose s else .stuck

/-- the signs of a text, each once, ascending (signs below 128) -/
def sgn (x : Tx) : List Nat := (List.range 128).filter fun c => x.contains c
/-- sorted(set(text)) -/
def ssetX : AV → Option AV
  | .str x => if (∀ c ∈ x, c < 128) ∧ x.length < 4000 ∧ (sgn x).length < 64 then some (.lst ((sgn x).map fun c => .str [c])) else none
  | _ => none
def rngL (lo : Int) (n : Nat) : List AV := (List.range n).map fun (k : Nat) => .int (lo + k)
def enumL : Int → List AV → List AV
  | _, [] => []
  | k, x :: r => .tup [.int k, x] :: enumL (k + 1) r
def zipL : List AV → List AV → List AV
  | x :: r, y :: q => .tup [x, y] :: zipL r q
  | _, _ => []
def itemsOf : AV → Option (List AV)
  | .lst xs => some xs
  | .tup xs => some xs
  | .str s => some (s.map fun c => .str [c])
  | _ => none

/-- a target takes a value -/
def S.putAll (s : S) : List Nat → List AV → Option S
  | [], [] => some s
  | i :: is, v :: vs => (s.put i v false).putAll is vs
  | _, _ => none
def asgT : ITg → AV → Bool → S → Option S
  | .nm i, v, own, s => some (s.put i v own)
  | .tp is, .tup xs, _, s => if xs.length = is.length then s.putAll is xs else none
  | _, _, _, _ => none

/-! ### the cases, for simp -/
@[simp] theorem bop_add (i j : Int) : bop .add (.int i) (.int j) = some (.int (i + j), false) := by rfl
@[simp] theorem bop_sub (i j : Int) : bop .sub (.int i) (.int j) = some (.int (i - j), false) := by rfl
@[simp] theorem bop_mul (i j : Int) : bop .mul (.int i) (.int j) = if small64 i ∨ small64 j then some (.int (i * j), false) else none := grd_eq _ _
@[simp] theorem bop_fdiv (i j : Int) : bop .fdiv (.int i) (.int j) = if j ≠ 0 ∧ j.natAbs < 1073741824 then some (.int (i.fdiv j), false) else none := grd_eq _ _
@[simp] theorem bop_mod (i j : Int) : bop .mod (.int i) (.int j) = if j ≠ 0 then some (.int (i.fmod j), false) else none := grd_eq _ _
@[simp] theorem bop_pow (i j : Int) : bop .pow (.int i) (.int j) = if 0 ≤ j ∧ j ≤ 1000000 ∧ i.natAbs < 2 ^ 64 then some (.int (i ^ j.toNat), false) else none := grd_eq _ _
@[simp] theorem bop_addS (x y : Tx) : bop .add (.str x) (.str y) = if x.length + y.length ≤ LIM then some (.str (x ++ y), false) else none := grd_eq _ _
@[simp] theorem bop_addL (x y : List AV) : bop .add (.lst x) (.lst y) = if x.length + y.length ≤ LIM then some (.lst (x ++ y), true) else none := grd_eq _ _
@[simp] theorem bop_addT (x y : List AV) : bop .add (.tup x) (.tup y) = if x ≠ [] ∧ x.length + y.length ≤ LIM then some (.tup (x ++ y), false) else none := grd_eq _ _
@[simp] theorem bop_mulS (x : Tx) (k : Int) : bop .mul (.str x) (.int k) = if x.length * k.toNat ≤ LIM ∧ -(2 ^ 63) ≤ k ∧ k < 2 ^ 63 then some (.str (List.replicate k.toNat x).flatten, false) else none := grd_eq _ _
@[simp] theorem bop_mulL (x : List AV) (k : Int) : bop .mul (.lst x) (.int k) = if x.length * k.toNat ≤ LIM ∧ -(2 ^ 63) ≤ k ∧ k < 2 ^ 63 then some (.lst (List.replicate k.toNat x).flatten, true) else none := grd_eq _ _
@[simp] theorem bop_mulT (x : List AV) (k : Int) : bop .mul (.tup x) (.int k) = if x ≠ [] ∧ 0 ≤ k ∧ k < 2 ^ 62 ∧ x.length * k.toNat ≤ LIM then some (.tup (List.replicate k.toNat x).flatten, false) else none := grd_eq _ _
@[simp] theorem cop_eq (a b : AV) : cop .eq a b = eqA a b := by rfl
@[simp] theorem cop_ne (a b : AV) : cop .ne a b = (eqA a b).map (!·) := by rfl
@[simp] theorem cop_lt (i j : Int) : cop .lt (.int i) (.int j) = some (decide (i < j)) := by rfl
@[simp] theorem cop_ltS (x y : Tx) : cop .lt (.str x) (.str y) = some (decide (x < y)) := by rfl
@[simp] theorem cop_le (i j : Int) : cop .le (.int i) (.int j) = some (decide (i ≤ j)) := by rfl
@[simp] theorem cop_gt (i j : Int) : cop .gt (.int i) (.int j) = some (decide (j < i)) := by rfl
@[simp] theorem cop_ge (i j : Int) : cop .ge (.int i) (.int j) = some (decide (j ≤ i)) := by rfl
@[simp] theorem cop_isB (x y : Bool) : cop .is_ (.bl x) (.bl y) = some (x == y) := by rfl
@[simp] theorem cop_isnotB (x y : Bool) : cop .isnot (.bl x) (.bl y) = some (!(x == y)) := by rfl
@[simp] theorem cop_isN (a : AV) : cop .is_ a .non = some (isNon a) := by cases a <;> rfl
@[simp] theorem cop_isnotN (a : AV) : cop .isnot a .non = some (!isNon a) := by cases a <;> rfl
@[simp] theorem cop_inS (x y : Tx) : cop .isin (.str x) (.str y) = some (decide (x <:+: y)) := by rfl
@[simp] theorem cop_notinS (x y : Tx) : cop .notin (.str x) (.str y) = some (!decide (x <:+: y)) := by rfl
@[simp] theorem cop_inL (a : AV) (ys : List AV) : cop .isin a (.lst ys) = inA a ys := by cases a <;> rfl
@[simp] theorem cop_inT (a : AV) (ys : List AV) : cop .isin a (.tup ys) = inA a ys := by cases a <;> rfl
@[simp] theorem cop_notinL (a : AV) (ys : List AV) : cop .notin a (.lst ys) = (inA a ys).map (!·) := by cases a <;> rfl
@[simp] theorem cop_notinT (a : AV) (ys : List AV) : cop .notin a (.tup ys) = (inA a ys).map (!·) := by cases a <;> rfl
@[simp] theorem isNon_n : isNon .non = true := rfl
@[simp] theorem isNon_b (b : Bool) : isNon (.bl b) = false := rfl
@[simp] theorem isNon_i (b : Int) : isNon (.int b) = false := rfl
@[simp] theorem isNon_s (b : Tx) : isNon (.str b) = false := rfl
@[simp] theorem isNon_t (b : List AV) : isNon (.tup b) = false := rfl
@[simp] theorem isNon_l (b : List AV) : isNon (.lst b) = false := rfl
@[simp] theorem truth_n  : truth .non = some false := by rfl
@[simp] theorem truth_b (b : Bool) : truth (.bl b) = some b := by rfl
@[simp] theorem truth_i (i : Int) : truth (.int i) = some (decide (i ≠ 0)) := by rfl
@[simp] theorem truth_s (s : Tx) : truth (.str s) = some (!s.isEmpty) := by rfl
@[simp] theorem truth_l (s : List AV) : truth (.lst s) = some (!s.isEmpty) := by rfl
@[simp] theorem truth_t (s : List AV) : truth (.tup s) = some (!s.isEmpty) := by rfl
@[simp] theorem bf_lenS (s : Tx) (hp : List AV) : bfun .len [.str s] hp = some (.int s.length, false) := by rfl
@[simp] theorem bf_lenL (s : List AV) (hp : List AV) : bfun .len [.lst s] hp = some (.int s.length, false) := by rfl
@[simp] theorem bf_lenT (s : List AV) (hp : List AV) : bfun .len [.tup s] hp = some (.int s.length, false) := by rfl
@[simp] theorem bf_lenX (s : List Int) (hp : List AV) : bfun .len [.scr s] hp = some (.int s.length, false) := by rfl
@[simp] theorem bf_lenR (i : Nat) (hp : List AV) : bfun .len [.ref i] hp = lenH hp[i]? := by rfl
@[simp] theorem lenH_l (xs : List AV) : lenH (some (.lst xs)) = some (.int xs.length, false) := by rfl
@[simp] theorem bf_int (i : Int) (hp : List AV) : bfun .int [.int i] hp = some (.int i, false) := by rfl
@[simp] theorem bf_intb (b : Bool) (hp : List AV) : bfun .int [.bl b] hp = some (.int (if b then 1 else 0), false) := by rfl
@[simp] theorem bf_listL (s : List AV) (hp : List AV) : bfun .list [.lst s] hp = some (.lst s, true) := by rfl
@[simp] theorem bf_listT (s : List AV) (hp : List AV) : bfun .list [.tup s] hp = some (.lst s, true) := by rfl
@[simp] theorem bf_listX (s : List Int) (hp : List AV) : bfun .list [.scr s] hp = some (.lst (s.map .int), true) := by rfl
@[simp] theorem bf_tupL (s : List AV) (hp : List AV) : bfun .tuple [.lst s] hp = some (.tup s, false) := by rfl
@[simp] theorem bf_tupT (s : List AV) (hp : List AV) : bfun .tuple [.tup s] hp = some (.tup s, false) := by rfl
@[simp] theorem bf_sorted (s : List AV) (hp : List AV) : bfun .sorted [.lst s] hp = (intsOf s).map fun ns => (.lst ((sortI ns).map .int), true) := by rfl
@[simp] theorem bf_isinst (v : AV) (n : String) (hp : List AV) : bfun .isinst [v, .ty n] hp = (isInst v n).map fun b => (.bl b, false) := by rfl
@[simp] theorem bf_max (i j : Int)(hp : List AV) : bfun .max [.int i, .int j] hp = some (.int (if j > i then j else i), false) := by rfl
@[simp] theorem bf_min (i j : Int)(hp : List AV) : bfun .min [.int i, .int j] hp = some (.int (if j < i then j else i), false) := by rfl
@[simp] theorem bf_maxL (xs : List AV) (hp : List AV) : bfun .max [.lst xs] hp = (intsOf xs).bind maxO := by rfl
@[simp] theorem bf_dict (ps : List AV) (hp : List AV) : bfun .dict [.tup ps] hp = (pairsOf ps).bind dctO := by rfl
@[simp] theorem maxO_c (n : Int) (r : List Int) : maxO (n :: r) = some (.int (maxI (n :: r)), false) := rfl
@[simp] theorem bm_get (ks vs : List AV) (k x : Tx) : bmeth .get (.dct ks vs) [.str k, .str x] = some (dgetX ks vs k (.str x), false) := by rfl
@[simp] theorem isI_non_int  : isInst (.non) "int" = some false := by simp [isInst, tys, kindV]
@[simp] theorem isI_non_bool  : isInst (.non) "bool" = some false := by simp [isInst, tys, kindV]
@[simp] theorem isI_non_str  : isInst (.non) "str" = some false := by simp [isInst, tys, kindV]
@[simp] theorem isI_non_tuple  : isInst (.non) "tuple" = some false := by simp [isInst, tys, kindV]
@[simp] theorem isI_non_list  : isInst (.non) "list" = some false := by simp [isInst, tys, kindV]
@[simp] theorem isI_bl_int (b : Bool) : isInst (.bl b) "int" = some true := by simp [isInst, tys, kindV]
@[simp] theorem isI_bl_bool (b : Bool) : isInst (.bl b) "bool" = some true := by simp [isInst, tys, kindV]
@[simp] theorem isI_bl_str (b : Bool) : isInst (.bl b) "str" = some false := by simp [isInst, tys, kindV]
@[simp] theorem isI_bl_tuple (b : Bool) : isInst (.bl b) "tuple" = some false := by simp [isInst, tys, kindV]
@[simp] theorem isI_bl_list (b : Bool) : isInst (.bl b) "list" = some false := by simp [isInst, tys, kindV]
@[simp] theorem isI_int_int (b : Int) : isInst (.int b) "int" = some true := by simp [isInst, tys, kindV]
@[simp] theorem isI_int_bool (b : Int) : isInst (.int b) "bool" = some false := by simp [isInst, tys, kindV]
@[simp] theorem isI_int_str (b : Int) : isInst (.int b) "str" = some false := by simp [isInst, tys, kindV]
@[simp] theorem isI_int_tuple (b : Int) : isInst (.int b) "tuple" = some false := by simp [isInst, tys, kindV]
@[simp] theorem isI_int_list (b : Int) : isInst (.int b) "list" = some false := by simp [isInst, tys, kindV]
@[simp] theorem isI_str_int (b : Tx) : isInst (.str b) "int" = some false := by simp [isInst, tys, kindV]
@[simp] theorem isI_str_bool (b : Tx) : isInst (.str b) "bool" = some false := by simp [isInst, tys, kindV]
@[simp] theorem isI_str_str (b : Tx) : isInst (.str b) "str" = some true := by simp [isInst, tys, kindV]
@[simp] theorem isI_str_tuple (b : Tx) : isInst (.str b) "tuple" = some false := by simp [isInst, tys, kindV]
@[simp] theorem isI_str_list (b : Tx) : isInst (.str b) "list" = some false := by simp [isInst, tys, kindV]
@[simp] theorem isI_tup_int (b : List AV) : isInst (.tup b) "int" = some false := by simp [isInst, tys, kindV]
@[simp] theorem isI_tup_bool (b : List AV) : isInst (.tup b) "bool" = some false := by simp [isInst, tys, kindV]
@[simp] theorem isI_tup_str (b : List AV) : isInst (.tup b) "str" = some false := by simp [isInst, tys, kindV]
@[simp] theorem isI_tup_tuple (b : List AV) : isInst (.tup b) "tuple" = some true := by simp [isInst, tys, kindV]
@[simp] theorem isI_tup_list (b : List AV) : isInst (.tup b) "list" = some false := by simp [isInst, tys, kindV]
@[simp] theorem isI_lst_int (b : List AV) : isInst (.lst b) "int" = some false := by simp [isInst, tys, kindV]
@[simp] theorem isI_lst_bool (b : List AV) : isInst (.lst b) "bool" = some false := by simp [isInst, tys, kindV]
@[simp] theorem isI_lst_str (b : List AV) : isInst (.lst b) "str" = some false := by simp [isInst, tys, kindV]
@[simp] theorem isI_lst_tuple (b : List AV) : isInst (.lst b) "tuple" = some false := by simp [isInst, tys, kindV]
@[simp] theorem isI_lst_list (b : List AV) : isInst (.lst b) "list" = some true := by simp [isInst, tys, kindV]
@[simp] theorem bm_join (a : Tx) (xs : List AV) : bmeth .join (.str a) [.lst xs] = joinO a (strsOf xs) := by rfl
@[simp] theorem joinO_some (a : Tx) (ys : List Tx) : joinO a (some ys) = if (ys.map (·.length)).sum + ys.length * a.length ≤ LIM then some (.str (joinX a ys), false) else none := grd_eq _ _
@[simp] theorem bm_startswith (a b : Tx) : bmeth .startswith (.str a) [.str b] = some (.bl (b.isPrefixOf a), false) := by rfl
@[simp] theorem bm_replace (a o n : Tx) : bmeth .replace (.str a) [.str o, .str n] = if o ≠ [] ∧ (replX o n a).length + a.length ≤ LIM then some (.str (replX o n a), false) else none := grd_eq _ _
@[simp] theorem hm_pop (xs : List AV) (i : Int) : hmeth .pop (some (.lst xs)) [.int i] = (hpop xs i).map fun p => (p.1, .lst p.2) := by rfl
@[simp] theorem isLst_l (xs : List AV) : isLst (some (.lst xs)) = true := by rfl
@[simp] theorem recvOk_r (k : Nat) (hp : List AV) : recvOk (.ref k) hp = isLst hp[k]? := by rfl
@[simp] theorem recvOk_d (x y : List AV) (hp : List AV) : recvOk (.dct x y) hp = true := by rfl
@[simp] theorem recvOk_s (x : Tx) (hp : List AV) : recvOk (.str x) hp = true := by rfl
@[simp] theorem ix_l (xs : List AV) (i : Int) (hp : List AV) : ixV (.lst xs) (.int i) hp = atX xs i := by rfl
@[simp] theorem ix_t (xs : List AV) (i : Int) (hp : List AV) : ixV (.tup xs) (.int i) hp = atX xs i := by rfl
@[simp] theorem ix_s (xs : Tx) (i : Int) (hp : List AV) : ixV (.str xs) (.int i) hp = (atX xs i).map fun c => .str [c] := by rfl
@[simp] theorem ix_r (k : Nat) (i : Int) (hp : List AV) : ixV (.ref k) (.int i) hp = ixH hp[k]? i := by rfl
@[simp] theorem ixH_l (xs : List AV) (i : Int) : ixH (some (.lst xs)) i = atX xs i := by rfl
@[simp] theorem sl_l (xs : List AV) (l h : AV) : slV (.lst xs) l h = (cutX xs l h).map fun z => (.lst z, true) := by rfl
@[simp] theorem sl_t (xs : List AV) (l h : AV) : slV (.tup xs) l h = (cutX xs l h).bind fun z => if z.length < xs.length then some (.tup z, false) else none := by rfl
@[simp] theorem sl_s (xs : Tx) (l h : AV) : slV (.str xs) l h = (cutX xs l h).map fun z => (.str z, false) := by rfl
@[simp] theorem asgT_nm (i : Nat) (v : AV) (o : Bool) (s : S) : asgT (.nm i) v o s = some (s.put i v o) := by rfl
@[simp] theorem asgT_tp (is : List Nat) (xs : List AV) (o : Bool) (s : S) : asgT (.tp is) (.tup xs) o s = if xs.length = is.length then s.putAll is xs else none := by rfl
@[simp] theorem items_l (xs : List AV) : itemsOf (.lst xs) = some xs := by rfl
@[simp] theorem items_t (xs : List AV) : itemsOf (.tup xs) = some xs := by rfl
@[simp] theorem items_s (xs : Tx) : itemsOf (.str xs) = some (xs.map fun c => .str [c]) := by rfl
@[simp] theorem get_mk (l hp) (i : Nat) : S.get ⟨l, hp⟩ i = (l[i]?).getD none := rfl
@[simp] theorem put_mk (l hp) (i : Nat) (v : AV) (o : Bool) : S.put ⟨l, hp⟩ i v o = ⟨l.set i (some (v, o)), hp⟩ := rfl
@[simp] theorem hset_mk (l hp) (i : Nat) (v : AV) : S.hset ⟨l, hp⟩ i v = ⟨l, hp.set i v⟩ := rfl
@[simp] theorem wipe_mk (l hp) (o : List Nat) : S.wipe ⟨l, hp⟩ o = ⟨wipeL l o, hp⟩ := rfl
@[simp] theorem esc_fz (s : S) : s.esc .fz = s := rfl
@[simp] theorem esc_fr (s : S) : s.esc .fr = s := rfl
@[simp] theorem esc_bo (s : S) (i : Nat) : s.esc (.bo i) = s.frz i := rfl

/-! ### the interpreter -/
def ofO {α : Type} : Option α → S → Res α
  | some a, s => .ok a s
  | none, _ => .stuck
@[simp] theorem ofO_some {α : Type} (a : α) (s : S) : ofO (some a) s = .ok a s := rfl
@[simp] theorem ofO_none {α : Type} (s : S) : ofO (none : Option α) s = .stuck := rfl
def mdOf : Bool → Md
  | true => .fr
  | false => .fz
@[simp] theorem mdOf_t : mdOf true = .fr := rfl
@[simp] theorem mdOf_f : mdOf false = .fz := rfl

/-- a callee's answer -/
def callR : FR → S → Res (AV × Md)
  | .ok v fresh hp, s => .ok (v, mdOf fresh) ⟨s.sl, hp⟩
  | .exc x hp, s => .exc x ⟨s.sl, hp⟩
  | .stuck, _ => .stuck
/-- what an own method with a name of Python's may answer -/
def dunOk (d : String) (v : AV) : Bool := d != "__len__" || (match v with | .int i => decide (0 ≤ i ∧ i < 2 ^ 63) | _ => false)
@[simp] theorem dunOk_len (i : Int) : dunOk "__len__" (.int i) = decide (0 ≤ i ∧ i < 2 ^ 63) := by simp [dunOk]
/-- the value of a field -/
def insGet (f : String) : List String → List AV → Option AV
  | n :: ns, v :: vs => if n = f then some v else insGet f ns vs
  | _, _ => none
/-- a list -/
def lstF : Option AV → Option (List AV)
  | some (.lst xs) => some xs
  | _ => none
@[simp] theorem lstF_l (xs : List AV) : lstF (some (.lst xs)) = some xs := rfl
mutual
noncomputable def ev (C : Oracle) : IE → S → Res (AV × Md)
  | .c v, s => .ok (v, .fz) s
  | .v i, s => match s.get i with
    | some (v, true) => .ok (v, .bo i) s
    | some (v, false) => .ok (v, .fz) s
    | none => .stuck
  | .bin o a b, s => (ev C a s).bind fun x s => (ev C b s).bind fun y s => (ofO (bop o x.1 y.1) s).bind fun z s => .ok (z.1, mdOf z.2) s
  | .neg a, s => (ev C a s).bind fun x s => match x.1 with
    | .int i => .ok (.int (-i), .fz) s
    | _ => .stuck
  | .not_ a, s => (ev C a s).bind fun x s => (ofO (truth x.1) s).bind fun b s => .ok (.bl (!b), .fz) s
  | .cmp o a b, s => (ev C a s).bind fun x s => (ev C b s).bind fun y s => (ofO (cop o x.1 y.1) s).bind fun z s => .ok (.bl z, .fz) s
  | .chain o p a b d, s => (ev C a s).bind fun x s => (ev C b s).bind fun y s => (ofO (cop o x.1 y.1) s).bind fun z s =>
      if z then (ev C d s).bind fun u s => (ofO (cop p y.1 u.1) s).bind fun z s => .ok (.bl z, .fz) s else .ok (.bl false, .fz) s
  | .and_ es, s => evAnd C es s
  | .or_ es, s => evOr C es s
  | .ife t a b, s => (evT C t s).bind fun k s => if k then ev C a s else ev C b s
  | .tup es, s => (evs C es s).bind fun xs s => if xs.length ≤ LIM then .ok (.tup xs, .fz) s else .stuck
  | .lst es, s => (evs C es s).bind fun xs s => if xs.length ≤ LIM then .ok (.lst xs, .fr) s else .stuck
  | .call f es, s => (evs C es s).bind fun xs s => match C f xs s.hp with
    | .ok v fresh hp => .ok (v, mdOf fresh) { s with hp := hp }
    | .exc x hp => .exc x { s with hp := hp }
    | .stuck => .stuck
  | .bcall f es, s => (evB C es s).bind fun xs s => (ofO (bfun f xs s.hp) s).bind fun z s => .ok (z.1, mdOf z.2) s
  | .meth o m es, s => (ev C o s).bind fun x s => if recvOk x.1 s.hp then (evB C es s).bind fun ys s => match x.1 with
    | .ref k => (ofO (hmeth m s.hp[k]? ys) s).bind fun z s => .ok (z.1, .fz) (s.hset k z.2)
    | v => (ofO (bmeth m v ys) s).bind fun z s => .ok (z.1, mdOf z.2) s
    else .stuck
  | .ix a i, s => (ev C a s).bind fun x s => (ev C i s).bind fun y s => (ofO (ixV x.1 y.1 s.hp) s).bind fun z s => .ok (z, .fz) s
  | .sl a lo hi, s => (ev C a s).bind fun x s => (ev C lo s).bind fun l s => (ev C hi s).bind fun h s => (ofO (slV x.1 l.1 h.1) s).bind fun z s => .ok (z.1, mdOf z.2) s
  | .attr o f cs, s => (ev C o s).bind fun x s => match x.1 with
    | .ins c ns vs => if cs.contains c then callR (C (c ++ "." ++ f) [.ins c ns vs] s.hp) s else (ofO (insGet f ns vs) s).bind fun z s => .ok (z, .fz) s
    | _ => .stuck
  | .dun d cs o es, s => (ev C o s).bind fun x s => match x.1 with
    | .ins c ns vs => if cs.contains c then (evs C es s).bind fun xs s => (callR (C (c ++ "." ++ d) (.ins c ns vs :: xs) s.hp) s).bind fun z s => if dunOk d z.1 then .ok z s else .stuck else .stuck
    | _ => .stuck
  | .lc elt own t it cs, s => (evI C it s).bind fun xs s =>
      (lcI (fun x s => match asgT t x false s with
        | none => .stuck
        | some s => (evC C cs s).bind fun k s => if k then (ev C elt s).bind fun y s => .ok (some y.1) ((s.esc y.2).wipe own) else .ok none (s.wipe own)) xs [] (s.wipe own)).bind fun ys s => .ok (.lst ys, .fr) s
  | .rng1 _, _ => .stuck
  | .rng2 _ _, _ => .stuck
  | .enum _, _ => .stuck
  | .zip _ _, _ => .stuck
  | .zipi _ _ _ _, _ => .stuck
  | .rev a, s => (ev C a s).bind fun x s => (ofO (revV x.1) s).bind fun z s => .ok (z.1, mdOf z.2) s
  | .sset a, s => (ev C a s).bind fun x s => (ofO (ssetX x.1) s).bind fun z s => .ok (z, .fr) s

/-- a list of expressions, each given away -/
noncomputable def evs (C : Oracle) : List IE → S → Res (List AV)
  | [], s => .ok [] s
  | e :: r, s => (ev C e s).bind fun x s => (evs C r (s.esc x.2)).bind fun xs s => .ok (x.1 :: xs) s
/-- .. each only looked at -/
noncomputable def evB (C : Oracle) : List IE → S → Res (List AV)
  | [], s => .ok [] s
  | e :: r, s => (ev C e s).bind fun x s => (evB C r s).bind fun xs s => .ok (x.1 :: xs) s
noncomputable def evAnd (C : Oracle) : List IE → S → Res (AV × Md)
  | [], _ => .stuck
  | [e], s => ev C e s
  | e :: r, s => (ev C e s).bind fun x s => match truth x.1 with
    | some true => evAnd C r s
    | some false => .ok x s
    | none => .stuck
noncomputable def evOr (C : Oracle) : List IE → S → Res (AV × Md)
  | [], _ => .stuck
  | [e], s => ev C e s
  | e :: r, s => (ev C e s).bind fun x s => match truth x.1 with
    | some false => evOr C r s
    | some true => .ok x s
    | none => .stuck
/-- a test -/
noncomputable def evT (C : Oracle) : IE → S → Res Bool
  | .not_ a, s => (evT C a s).bind fun k s => .ok (!k) s
  | .and_ es, s => evTA C es s
  | .or_ es, s => evTO C es s
  | .ife t a b, s => (evT C t s).bind fun k s => if k then evT C a s else evT C b s
  | e, s => (ev C e s).bind fun x s => ofO (truth x.1) s
noncomputable def evTA (C : Oracle) : List IE → S → Res Bool
  | [], s => .ok true s
  | e :: r, s => (evT C e s).bind fun k s => if k then evTA C r s else .ok false s
noncomputable def evTO (C : Oracle) : List IE → S → Res Bool
  | [], s => .ok false s
  | e :: r, s => (evT C e s).bind fun k s => if k then .ok true s else evTO C r s
/-- a comprehension's tests -/
noncomputable def evC (C : Oracle) : List IE → S → Res Bool
  | [], s => .ok true s
  | e :: r, s => (evT C e s).bind fun k s => if k then evC C r s else .ok false s
/-- what is walked -/
noncomputable def evI (C : Oracle) : IE → S → Res (List AV)
  | .rng1 a, s => (ev C a s).bind fun x s => match x.1 with
    | .int j => if -(2 ^ 62) ≤ j ∧ j < 2 ^ 62 then .ok (rngL 0 j.toNat) s else .stuck
    | _ => .stuck
  | .rng2 a b, s => (ev C a s).bind fun x s => (ev C b s).bind fun y s => match x.1, y.1 with
    | .int i, .int j => if -(2 ^ 62) ≤ i ∧ i < 2 ^ 62 ∧ -(2 ^ 62) ≤ j ∧ j < 2 ^ 62 then .ok (rngL i (j - i).toNat) s else .stuck
    | _, _ => .stuck
  | .enum a, s => (ev C a s).bind fun x s => match x.1 with
    | .lst xs => .ok (enumL 0 xs) (s.esc x.2)
    | _ => .stuck
  | .zip a b, s => (ev C a s).bind fun x s => (ev C b (s.esc x.2)).bind fun y s => match x.1, y.1 with
    | .lst xs, .lst ys => .ok (zipL xs ys) (s.esc y.2)
    | .tup xs, .tup ys => .ok (zipL xs ys) (s.esc y.2)
    | _, _ => .stuck
  | .zipi c f a b, s => (ev C a s).bind fun x s => (ev C b s).bind fun y s => match x.1, y.1 with
    | .ins c' ns vs, .tup ys => if c' = c then (ofO (lstF (insGet f ns vs)) s).bind fun xs s => .ok (zipL xs ys) s else .stuck
    | _, _ => .stuck
  | e, s => (ev C e s).bind fun x s => (ofO (itemsOf x.1) s).bind fun xs s => .ok xs (s.esc x.2)
end

mutual
/-- what a pattern binds; some none: it does not take the value -/
noncomputable def patB : IPat → AV → Option (Option (List (Nat × AV)))
  | .any, _ => some (some [])
  | .cap i, v => some (some [(i, v)])
  | .val t, v => (eqA v (.str t)).map fun b => if b then some [] else none
  | .seq ps, .tup xs => if xs.length = ps.length then patsB ps xs else some none
  | .seq _, .str _ => some none
  | .seq _, .int _ => some none
  | .seq _, .bl _ => some none
  | .seq _, .non => some none
  | .seq _, _ => none
noncomputable def patsB : List IPat → List AV → Option (Option (List (Nat × AV)))
  | p :: ps, x :: xs => match patB p x with
    | some (some l) => match patsB ps xs with
      | some (some m) => some (some (l ++ m))
      | some none => some none
      | none => none
    | some none => some none
    | none => none
  | [], [] => some (some [])
  | _, _ => none
end
def putB : List (Nat × AV) → S → S
  | [], s => s
  | p :: r, s => putB r (s.put p.1 p.2 false)
def asgM : ITg → AV → Md → S → Option S
  | t, v, .fr, s => asgT t v true s
  | t, v, .fz, s => asgT t v false s
  | t, v, .bo i, s => asgT t v false (s.frz i)
/-- a new changeable list -/
def asgR : Nat → AV → Md → S → Option S
  | i, .lst xs, .fr, s => some ⟨s.sl.set i (some (.ref s.hp.length, false)), s.hp ++ [.lst xs]⟩
  | _, _, _, _ => none
def setL (xs : List AV) (n : Int) (z : AV) : Option (List AV) := (ixX xs.length n).map fun m => xs.set m z
def asetH (s : S) (k : Nat) (n : Int) (z : AV) : Option AV → Option S
  | some (.lst xs) => (setL xs n z).map fun l => s.hset k (.lst l)
  | _ => none
def asetG (s : S) (j : Nat) (z : AV) : Option (AV × Bool) → AV → Option S
  | some (.ref k, false), .int n => asetH s k n z s.hp[k]?
  | some (.lst xs, true), .int n => (setL xs n z).map fun l => s.put j (.lst l) true
  | _, _ => none
def aset1 (s : S) (j : Nat) (y z : AV) : Option S := asetG s j z (s.get j) y
def appH (s : S) (k : Nat) (z : AV) : Option AV → Option S
  | some (.lst xs) => if xs.length < LIM then some (s.hset k (.lst (xs ++ [z]))) else none
  | _ => none
def appG (s : S) (i : Nat) (z : AV) : Option (AV × Bool) → Option S
  | some (.lst xs, true) => if xs.length < LIM then some (s.put i (.lst (xs ++ [z])) true) else none
  | some (.ref k, false) => appH s k z s.hp[k]?
  | _ => none
def app1 (s : S) (i : Nat) (z : AV) : Option S := appG s i z (s.get i)
@[simp] theorem asgM_fr (t : ITg) (v : AV) (s : S) : asgM t v .fr s = asgT t v true s := rfl
@[simp] theorem asgM_fz (t : ITg) (v : AV) (s : S) : asgM t v .fz s = asgT t v false s := rfl
@[simp] theorem asgM_bo (t : ITg) (v : AV) (i : Nat) (s : S) : asgM t v (.bo i) s = asgT t v false (s.frz i) := rfl
@[simp] theorem asgR_l (i : Nat) (xs : List AV) (s : S) : asgR i (.lst xs) .fr s = some ⟨s.sl.set i (some (.ref s.hp.length, false)), s.hp ++ [.lst xs]⟩ := rfl
@[simp] theorem asetG_r (s : S) (j k : Nat) (z : AV) (n : Int) : asetG s j z (some (.ref k, false)) (.int n) = asetH s k n z s.hp[k]? := rfl
@[simp] theorem asetG_l (s : S) (j : Nat) (xs : List AV) (z : AV) (n : Int) : asetG s j z (some (.lst xs, true)) (.int n) = (setL xs n z).map fun l => s.put j (.lst l) true := rfl
@[simp] theorem asetH_l (s : S) (k : Nat) (xs : List AV) (z : AV) (n : Int) : asetH s k n z (some (.lst xs)) = (setL xs n z).map fun l => s.hset k (.lst l) := rfl
@[simp] theorem appG_l (s : S) (i : Nat) (xs : List AV) (z : AV) : appG s i z (some (.lst xs, true)) = if xs.length < LIM then some (s.put i (.lst (xs ++ [z])) true) else none := rfl
@[simp] theorem appG_r (s : S) (i k : Nat) (z : AV) : appG s i z (some (.ref k, false)) = appH s k z s.hp[k]? := rfl
@[simp] theorem appH_l (s : S) (k : Nat) (xs : List AV) (z : AV) : appH s k z (some (.lst xs)) = if xs.length < LIM then some (s.hset k (.lst (xs ++ [z]))) else none := rfl
@[simp] theorem aset1_eq (s : S) (j : Nat) (y z : AV) : aset1 s j y z = asetG s j z (s.get j) y := rfl
@[simp] theorem app1_eq (s : S) (i : Nat) (z : AV) : app1 s i z = appG s i z (s.get i) := rfl

/-- what may be appended to -/
def appOk (s : S) (i : Nat) : Bool :=
  match s.get i with
  | some (.lst _, true) => true
  | some (.ref k, false) => isLst s.hp[k]?
  | _ => false
def appOkG (hp : List AV) : Option (AV × Bool) → Bool
  | some (.lst _, true) => true
  | some (.ref k, false) => isLst hp[k]?
  | _ => false
@[simp] theorem appOk_eq (s : S) (i : Nat) : appOk s i = appOkG s.hp (s.get i) := by
  unfold appOk appOkG
  rfl
@[simp] theorem appOkG_l (hp xs : List AV) : appOkG hp (some (.lst xs, true)) = true := rfl
@[simp] theorem appOkG_r (hp : List AV) (k : Nat) : appOkG hp (some (.ref k, false)) = isLst hp[k]? := rfl
mutual
noncomputable def ex (C : Oracle) : IS → S → Res Fl
  | .asg t e, s => (ev C e s).bind fun x s => (ofO (asgM t x.1 x.2 s) s).bind fun s' _ => .ok .nx s'
  | .asgr i e, s => (ev C e s).bind fun x s => (ofO (asgR i x.1 x.2 s) s).bind fun s' _ => .ok .nx s'
  | .aset j i e, s => (ev C e s).bind fun z s => if ((s.esc z.2).get j).isSome then (ev C i (s.esc z.2)).bind fun y s => (ofO (aset1 s j y.1 z.1) s).bind fun s' _ => .ok .nx s' else .stuck
  | .fset _ _ _, _ => .stuck
  | .expr e, s => (ev C e s).bind fun _ s => .ok .nx s
  | .app i e, s => if appOk s i then (ev C e s).bind fun x s => (ofO (app1 (s.esc x.2) i x.1) s).bind fun s' _ => .ok .nx s' else .stuck
  | .ret e, s => (ev C e s).bind fun x s => .ok (.rt x.1 x.2) s
  | .retN, s => .ok (.rt .non .fz) s
  | .ite t a b, s => (evT C t s).bind fun k s => if k then exs C a s else exs C b s
  | .for_ t it body, s => (evI C it s).bind fun xs s => forI (fun x s => (ofO (asgT t x false s) s).bind fun s' _ => exs C body s') xs s
  | .whl t body, s => whlI (fun s => (evT C t s).bind fun k s => if k then (exs C body s).bind fun f s => match f with
      | .nx => .ok none s
      | .ct => .ok none s
      | .bk => .ok (some .nx) s
      | .rt v md => .ok (some (.rt v md)) s
    else .ok (some .nx) s) s
  | .brk, s => .ok .bk s
  | .cnt, s => .ok .ct s
  | .pass, s => .ok .nx s
  | .stk, _ => .stuck
  | .mtch e ps bs, s => (ev C e s).bind fun x s => exM C ps bs x.1 (s.esc x.2)
noncomputable def exs (C : Oracle) : List IS → S → Res Fl
  | [], s => .ok .nx s
  | i :: r, s => match ex C i s with
    | .ok .nx s' => exs C r s'
    | .ok .bk s' => .ok .bk s'
    | .ok .ct s' => .ok .ct s'
    | .ok (.rt v md) s' => .ok (.rt v md) s'
    | .exc x s' => .exc x s'
    | .stuck => .stuck
noncomputable def exM (C : Oracle) : List IPat → List (List IS) → AV → S → Res Fl
  | [], [], _, s => .ok .nx s
  | p :: ps, b :: bs, v, s => match patB p v with
    | some (some l) => exs C b (putB l s)
    | some none => exM C ps bs v s
    | none => .stuck
  | _, _, _, _ => .stuck
end

/-- a def -/
structure IFn where
  np : Nat
  nn : Nat
  body : List IS
def startS (nn : Nat) (as : List AV) (hp : List AV) : S := ⟨as.map (fun v => some (v, false)) ++ List.replicate (nn - as.length) none, hp⟩
noncomputable def run (C : Oracle) (f : IFn) (as : List AV) (hp : List AV) : FR :=
  if as.length = f.np then
    match exs C f.body (startS f.nn as hp) with
    | .ok (.rt v md) s => .ok v (match md with | .fz => false | _ => true) s.hp
    | .ok .nx s => .ok .non false s.hp
    | .exc x s => .exc x s.hp
    | _ => .stuck
  else .stuck
/-- no def -/
def C0 : Oracle := fun _ _ _ => .stuck
/-! ### the run of a maker -/
structure IIni where
  np : Nat
  nn : Nat
  pre : List IS
  fs : List (String × IE)
def isMe (n : Nat) : Option (AV × Bool) → Bool
  | some (.ref m, false) => m == n
  | _ => false
@[simp] theorem isMe_r (n m : Nat) : isMe n (some (.ref m, false)) = (m == n) := rfl
/-- self.f = e, one after the other -/
noncomputable def evF (C : Oracle) (n : Nat) : List (String × IE) → S → Res (List AV)
  | [], s => .ok [] s
  | p :: r, s => (ev C p.2 s).bind fun x s => if isMe n ((s.esc x.2).get 0) then (evF C n r (s.esc x.2)).bind fun xs s => .ok (x.1 :: xs) s else .stuck
noncomputable def runI (c : String) (C : Oracle) (f : IIni) (as hp : List AV) : FR :=
  if as.length + 1 = f.np then
    match exs C f.pre (startS f.nn (.ref hp.length :: as) (hp ++ [.non])) with
    | .ok .nx s => match evF C hp.length f.fs s with
      | .ok vs s => .ok (.ins c (f.fs.map (·.1)) vs) false s.hp
      | .exc x s => .exc x s.hp
      | .stuck => .stuck
    | .exc x s => .exc x s.hp
    | _ => .stuck
  else .stuck

end Q
end

section
set_option Elab.async false
set_option linter.all false
set_option maxRecDepth 100000
/-! Core2: how the interpreter's states lie in the model's states. -/
namespace Q
open PySem PySem.Spec PyProof.Rows

def tx (s : Tx) : Str := ⟨s.toArray⟩
theorem LIM_eq : sizeLine = LIM := sizeLine_eq

/-- what is fixed through the whole law -/
structure GC where
  P : Program
  w : World
  K : PySem.W.Frag
  mg : Str → Option Value
  base : Heap
  cls : String → Option Addr

/-- the ghost: what is never written again; the changeable objects (the object, the object that is written); whose text a token is -/
structure Gh where
  fz : Addr → Prop
  th : List (Addr × Option Addr)
  tk : Nat → Option Tx

def Gh.mu (g : Gh) (a : Addr) : Prop := ∃ p ∈ g.th, p.2 = some a
/-- the object that is written is new -/
def Nw (h : Heap) (p : Addr × Option Addr) : Prop := ∀ b, p.2 = some b → h.get? b = none

def TupAt (h : Heap) (a : Addr) (us : List Value) : Prop := us.length ≤ LIM ∧ IsTup h a us.toArray ∧ ∀ o, h.get? a = some o → o.dict = none
def LstAt (h : Heap) (a : Addr) (us : List Value) : Prop := us.length ≤ LIM ∧ ∃ n, h.get? a = some { cls := .type "list", data := .seq us.toArray n }

/-- a text that may be: not too long, of Unicode's numbers -/
def TxOk (s : Tx) : Prop := s.length ≤ LIM ∧ ∀ c ∈ s, c < 1114112

/-- a class whose instances are read by their dict -/
structure ClsF (K : PySem.W.Frag) (C : Addr) (ns : List String) : Prop where
  get : ∀ n, PySem.W.plainGet K C n = true
  dict : PySem.W.hasDictIn K C = true
  no : ∀ n ∈ ns, PySem.W.findIn K (.ref C) (Str.ofString n) = some none
mutual
def Rep (gc : GC) (g : Gh) (h : Heap) : AV → Value → Prop
  | .non, u => u = .none
  | .bl b, u => u = .bool b
  | .int i, u => ∃ t, u = .int i t
  | .str s, u => ∃ t, u = .str (tx s) t ∧ g.tk t = some s ∧ TxOk s
  | .tup xs, u => ∃ a us, u = .ref a ∧ g.fz a ∧ TupAt h a us ∧ RepL gc g h xs us
  | .lst xs, u => ∃ a us, u = .ref a ∧ g.fz a ∧ LstAt h a us ∧ RepL gc g h xs us
  | .ref i, u => ∃ p, g.th[i]? = some p ∧ u = .ref p.1
  | .ins c ns vs, u => ∃ a dx C us, u = .ref a ∧ g.fz a ∧ g.fz dx ∧ h.get? a = some (PySem.W.instObj C dx) ∧ dx ≠ a ∧ gc.cls c = some C ∧ ClsF gc.K C ns ∧
      ns.length = vs.length ∧ h.Ns1 dx (fun x => ((ns.map Str.ofString).zip us).lookup x) ∧ RepL gc g h vs us
  | .ty n, u => u = .type n
  | .fn _, _ => False
  | .dct ks vs, u => ∃ (a : Addr) (kt : List Tx) (us : List Value), u = .ref a ∧ g.fz a ∧ (a == sysModules) = false ∧ ks = kt.map .str ∧ kt.Nodup ∧ kt.length = us.length ∧
      h.DictOf (strKind gc.P gc.w) a ((kt.map tx).zip us) ∧ RepL gc g h vs us
  | .scr _, _ => False
def RepL (gc : GC) (g : Gh) (h : Heap) : List AV → List Value → Prop
  | [], us => us = []
  | x :: r, us => ∃ u q, us = u :: q ∧ Rep gc g h x u ∧ RepL gc g h r q
end

section
variable {gc : GC} {g g' : Gh} {h h' : Heap}
theorem RepL.length : ∀ {xs : List AV} {us : List Value}, RepL gc g h xs us → us.length = xs.length
  | [], us, e => by
    have e : us = [] := by simpa only [RepL] using e
    rw [e]; rfl
  | x :: r, us, e => by
    simp only [RepL] at e
    obtain ⟨u, q, rfl, _, t⟩ := e
    simp only [List.length_cons, RepL.length t]
theorem RepL.get : ∀ {xs : List AV} {us : List Value} {i : Nat} {x : AV}, RepL gc g h xs us → xs[i]? = some x → ∃ u, us[i]? = some u ∧ Rep gc g h x u
  | [], _, _, _, _, e => by simp at e
  | y :: r, us, 0, x, e, ex => by
    simp only [RepL] at e
    obtain ⟨u, q, rfl, r1, t⟩ := e
    have ex : y = x := by simpa using ex
    exact ⟨u, rfl, ex ▸ r1⟩
  | y :: r, us, i + 1, x, e, ex => by
    simp only [RepL] at e
    obtain ⟨u, q, rfl, r1, t⟩ := e
    obtain ⟨u', e1, e2⟩ := RepL.get (i := i) t (by simpa using ex)
    exact ⟨u', by simpa using e1, e2⟩
theorem RepL.app : ∀ {xs ys : List AV} {us ws : List Value}, RepL gc g h xs us → RepL gc g h ys ws → RepL gc g h (xs ++ ys) (us ++ ws)
  | [], ys, us, ws, e, f => by
    have e : us = [] := by simpa only [RepL] using e
    subst e; exact f
  | x :: r, ys, us, ws, e, f => by
    simp only [RepL] at e
    obtain ⟨u, q, rfl, r1, t⟩ := e
    simp only [List.cons_append, RepL]
    exact ⟨u, q ++ ws, rfl, r1, RepL.app t f⟩
theorem RepL.one {x : AV} {u : Value} (r : Rep gc g h x u) : RepL gc g h [x] [u] := by
  simp only [RepL]
  exact ⟨u, [], rfl, r, rfl⟩
theorem RepL.nil : RepL gc g h [] [] := by simp only [RepL]
theorem RepL.cons {x : AV} {u : Value} {xs : List AV} {us : List Value} (r : Rep gc g h x u) (t : RepL gc g h xs us) : RepL gc g h (x :: xs) (u :: us) := by
  simp only [RepL]
  exact ⟨u, us, rfl, r, t⟩
theorem RepL.take : ∀ {xs : List AV} {us : List Value} (n : Nat), RepL gc g h xs us → RepL gc g h (xs.take n) (us.take n)
  | _, _, 0, _ => RepL.nil
  | [], us, n + 1, e => by
    have e : us = [] := by simpa only [RepL] using e
    subst e; exact RepL.nil
  | x :: r, us, n + 1, e => by
    simp only [RepL] at e
    obtain ⟨u, q, rfl, r1, t⟩ := e
    exact RepL.cons r1 (RepL.take n t)
theorem RepL.drop : ∀ {xs : List AV} {us : List Value} (n : Nat), RepL gc g h xs us → RepL gc g h (xs.drop n) (us.drop n)
  | _, _, 0, e => e
  | [], us, n + 1, e => by
    have e : us = [] := by simpa only [RepL] using e
    subst e; exact RepL.nil
  | x :: r, us, n + 1, e => by
    simp only [RepL] at e
    obtain ⟨u, q, rfl, r1, t⟩ := e
    exact RepL.drop n t
theorem RepL.set : ∀ {xs : List AV} {us : List Value} {x : AV} {u : Value} (i : Nat), RepL gc g h xs us → Rep gc g h x u → RepL gc g h (xs.set i x) (us.set i u)
  | [], us, _, _, _, e, _ => by
    have e : us = [] := by simpa only [RepL] using e
    subst e; exact RepL.nil
  | y :: r, us, x, u, 0, e, rx => by
    simp only [RepL] at e
    obtain ⟨v, q, rfl, r1, t⟩ := e
    exact RepL.cons rx t
  | y :: r, us, x, u, i + 1, e, rx => by
    simp only [RepL] at e
    obtain ⟨v, q, rfl, r1, t⟩ := e
    exact RepL.cons r1 (RepL.set i t rx)
theorem RepL.erase : ∀ {xs : List AV} {us : List Value} (i : Nat), RepL gc g h xs us → RepL gc g h (xs.eraseIdx i) (us.eraseIdx i)
  | [], us, _, e => by
    have e : us = [] := by simpa only [RepL] using e
    subst e; exact RepL.nil
  | y :: r, us, 0, e => by
    simp only [RepL] at e
    obtain ⟨v, q, rfl, r1, t⟩ := e
    exact t
  | y :: r, us, i + 1, e => by
    simp only [RepL] at e
    obtain ⟨v, q, rfl, r1, t⟩ := e
    exact RepL.cons r1 (RepL.erase i t)
theorem RepL.rep {xs : List AV} {us : List Value} (e : RepL gc g h xs us) : ∀ k : Nat, RepL gc g h (List.replicate k xs).flatten (List.replicate k us).flatten
  | 0 => RepL.nil
  | k + 1 => by
    rw [List.replicate_succ, List.replicate_succ, List.flatten_cons, List.flatten_cons]
    exact RepL.app e (RepL.rep e k)

/-- what a ghost may become -/
structure GMono (g g' : Gh) (h h' : Heap) : Prop where
  obj : ∀ a o, g.fz a → h.get? a = some o → h'.get? a = some o
  fz : ∀ a, g.fz a → g'.fz a
  th : ∃ more, g'.th = g.th ++ more
  tk : ∀ t x, g.tk t = some x → g'.tk t = some x
theorem GMono.refl : GMono g g h h := ⟨fun _ _ _ e => e, fun _ e => e, ⟨[], by simp⟩, fun _ _ e => e⟩
theorem GMono.trans {g'' : Gh} {h'' : Heap} (a : GMono g g' h h') (b : GMono g' g'' h' h'') : GMono g g'' h h'' :=
  ⟨fun x o f e => b.obj x o (a.fz x f) (a.obj x o f e), fun x f => b.fz x (a.fz x f), let ⟨m, e⟩ := a.th; let ⟨n, e'⟩ := b.th; ⟨m ++ n, by rw [e', e, List.append_assoc]⟩, fun t x e => b.tk t x (a.tk t x e)⟩
theorem GMono.thAt (m : GMono g g' h h') {i : Nat} {p : Addr × Option Addr} (e : g.th[i]? = some p) : g'.th[i]? = some p := by
  obtain ⟨more, q⟩ := m.th
  rw [q, List.getElem?_append_left (List.getElem?_eq_some_iff.mp e).1]
  exact e
theorem TupAt.mono {a : Addr} {us : List Value} (t : TupAt h a us) (k : ∀ o, h.get? a = some o → h'.get? a = some o) : TupAt h' a us := by
  obtain ⟨z, ⟨o, e, c⟩, d⟩ := t
  exact ⟨z, ⟨o, k o e, c⟩, fun o' e' => by rw [k o e] at e'; cases e'; exact d o e⟩
theorem LstAt.mono {a : Addr} {us : List Value} (t : LstAt h a us) (k : ∀ o, h.get? a = some o → h'.get? a = some o) : LstAt h' a us := by
  obtain ⟨z, n, e⟩ := t
  exact ⟨z, n, k _ e⟩
mutual
theorem Rep.mono (m : GMono g g' h h') : ∀ {v : AV} {u : Value}, Rep gc g h v u → Rep gc g' h' v u
  | .non, _, r => by simpa only [Rep] using r
  | .bl _, _, r => by simpa only [Rep] using r
  | .int _, _, r => by simpa only [Rep] using r
  | .str _, _, r => by
    simp only [Rep] at r ⊢
    obtain ⟨t, e, k, z⟩ := r
    exact ⟨t, e, m.tk _ _ k, z⟩
  | .tup xs, _, r => by
    simp only [Rep] at r ⊢
    obtain ⟨a, us, e, f, t, q⟩ := r
    exact ⟨a, us, e, m.fz a f, t.mono fun o x => m.obj a o f x, RepL.mono m q⟩
  | .lst xs, _, r => by
    simp only [Rep] at r ⊢
    obtain ⟨a, us, e, f, t, q⟩ := r
    exact ⟨a, us, e, m.fz a f, t.mono fun o x => m.obj a o f x, RepL.mono m q⟩
  | .ref i, _, r => by
    simp only [Rep] at r ⊢
    obtain ⟨p, e, q⟩ := r
    exact ⟨p, m.thAt e, q⟩
  | .ins c ns vs, _, r => by
    simp only [Rep] at r ⊢
    obtain ⟨a, dx, C, us, e, f, f2, o, ne, cl, cf, l, n, q⟩ := r
    exact ⟨a, dx, C, us, e, m.fz a f, m.fz dx f2, m.obj a _ f o, ne, cl, cf, l, n.at fun o x => m.obj dx o f2 x, RepL.mono m q⟩
  | .ty _, _, r => by simpa only [Rep] using r
  | .fn _, _, r => by simp only [Rep] at r
  | .dct ks vs, _, r => by
    simp only [Rep] at r ⊢
    obtain ⟨a, kt, us, e, f, ne, ek, nd, l, d, q⟩ := r
    exact ⟨a, kt, us, e, m.fz a f, ne, ek, nd, l, d.at' fun o x => m.obj a o f x, RepL.mono m q⟩
  | .scr _, _, r => by simp only [Rep] at r
theorem RepL.mono (m : GMono g g' h h') : ∀ {vs : List AV} {us : List Value}, RepL gc g h vs us → RepL gc g' h' vs us
  | [], _, r => by simpa only [RepL] using r
  | v :: vs, _, r => by
    simp only [RepL] at r ⊢
    obtain ⟨u, q, e, r1, r2⟩ := r
    exact ⟨u, q, e, Rep.mono m r1, RepL.mono m r2⟩
end
end

/-! ### a frame that runs -/
structure Fx where
  gc : GC
  A : Around
  N : List Str
  env : Env
  stack : List Env
  h0 : Heap
  fn : Str → Bool
  k : Nat

structure FxOk (X : Fx) : Prop where
  mod : L2.Mod X.gc.K X.gc.mg X.gc.base
  kind : X.env.scope.kind = .function
  glob : X.env.globals = mainGlobals
  blt : X.env.builtins = builtinsNs
  nd : X.N.Nodup
  inj : ∀ x y c, X.env.cells.lookup x = some c → X.env.cells.lookup y = some c → x = y
  has : ∀ x, (X.env.kindOf x = some .cell ∨ X.env.kindOf x = some .free) → ∃ c, X.env.cells.lookup x = some c
  cne : ∀ x c, X.env.cells.lookup x = some c → c ≠ X.env.locals
  room : L2.Room X.k X.A
  frames : X.A.frames = some X.stack
  loB : ∀ a o, X.gc.base.get? a = some o → ∃ o', X.h0.get? a = some o'
  loL : X.h0.get? X.env.locals = none
  bk : NoneBooked X.gc.base
  loC : ∀ x c, X.fn x = true → X.env.kindOf x = some .cell → X.env.cells.lookup x = some c → X.h0.get? c = none

theorem FxOk.hd {X : Fx} (h : FxOk X) : X.A.handled = none := h.room.hd
theorem FxOk.un {X : Fx} (h : FxOk X) : X.A.units + 100 < cLine := by have := h.room.un; omega

/-- a changeable object's content -/
def CellR (gc : GC) (g : Gh) (h : Heap) (v : AV) (p : Addr × Option Addr) : Prop :=
  match v with
  | .lst xs => p.2 = some p.1 ∧ ∃ us, LstAt h p.1 us ∧ RepL gc g h xs us
  | .non => True
  | _ => False

/-- the ghost over a state -/
structure GhOk (gc : GC) (g : Gh) (hp : List AV) (s : Shared) : Prop where
  fzIn : ∀ a, g.fz a → ∃ o, s.heap.get? a = some o
  thNd : (g.th.filterMap (·.2)).Nodup
  thFz : ∀ a, g.mu a → ¬ g.fz a
  thIn : ∀ a, g.mu a → ∃ o, s.heap.get? a = some o
  thB : ∀ a, g.mu a → gc.base.get? a = none
  len : hp.length = g.th.length
  cell : ∀ (k : Nat) (p : Addr × Option Addr) (v : AV), g.th[k]? = some p → hp[k]? = some v → CellR gc g s.heap v p
  tk0 : g.tk 0 = none
  tkLt : ∀ t x, g.tk t = some x → t < s.toks
  tkPos : 0 < s.toks

/-- the value that a name has -/
def Lk (X : Fx) (s : Shared) (x : Str) (u : Value) : Prop := ∃ m, s.heap.Ns X.env.locals m ∧ L2.Look X.env s.heap m x u

def SlotV (X : Fx) (g : Gh) (h : Heap) (v : AV) (own : Bool) (u : Value) : Prop :=
  match own with
  | false => Rep X.gc g h v u
  | true => ∃ a xs us, u = .ref a ∧ v = .lst xs ∧ LstAt h a us ∧ RepL X.gc g h xs us ∧ ¬ g.fz a ∧ ¬ g.mu a ∧ X.h0.get? a = none

/-- the i-th slot's name is seen here -/
def VisAt (X : Fx) (i : Nat) : Prop := ∃ x, X.N[i]? = some x ∧ L2.Vis X.env.scope x
/-- the i-th slot's value is u -/
def At (X : Fx) (s : Shared) (i : Nat) (u : Value) : Prop := ∃ x, X.N[i]? = some x ∧ L2.Vis X.env.scope x ∧ Lk X s x u

theorem At.vis {X : Fx} {s : Shared} {i : Nat} {u : Value} (h : At X s i u) : VisAt X i := let ⟨x, e, v, _⟩ := h; ⟨x, e, v⟩

structure SR (X : Fx) (g : Gh) (st : S) (s : Shared) : Prop where
  ok : FxOk X
  bare : AllBare s.gens
  base : ∀ a o, X.gc.base.get? a = some o → s.heap.get? a = some o
  ent : ∀ a o, X.h0.get? a = some o → ∃ o', s.heap.get? a = some o'
  funs : s.heap.FunFrames X.gc.base X.stack
  ns : ∃ m, s.heap.Ns X.env.locals m
  cell : ∀ x c, X.env.cells.lookup x = some c → ∃ v, s.heap.IsCell c v
  gh : GhOk X.gc g st.hp s
  fzL : ¬ g.fz X.env.locals
  fzC : ∀ x c, X.env.cells.lookup x = some c → ¬ g.fz c
  fzF : ∀ L ∈ L2.frs X.stack, ¬ g.fz L
  muL : ¬ g.mu X.env.locals
  muC : ∀ x c, X.env.cells.lookup x = some c → ¬ g.mu c
  muF : ∀ L ∈ L2.frs X.stack, ¬ g.mu L
  slot : ∀ i v o, st.get i = some (v, o) → VisAt X i → ∃ u, At X s i u ∧ SlotV X g s.heap v o u
  dist : ∀ i j v w u, st.get i = some (v, true) → st.get j = some (w, true) → At X s i u → At X s j u → i = j
  len : st.sl.length = X.N.length
  frD : ∀ L ∈ L2.frs X.stack, ∃ m, s.heap.Ns L m

/-- an address that a slot owns -/
def OwnA (X : Fx) (st : S) (s : Shared) (a : Addr) : Prop := ∃ i v, st.get i = some (v, true) ∧ At X s i (.ref a)

/-- what a run may do to the heap -/
structure Kp (mu : Addr → Prop) (fr : List Addr) (h h' : Heap) : Prop where
  keep : ∀ a o, h.get? a = some o → ¬ mu a → a ∉ fr → h'.get? a = some o
  slot : ∀ a o, h.get? a = some o → ¬ mu a → ∃ sl, h'.get? a = some { o with slots := sl }
  there : ∀ a o, h.get? a = some o → ∃ o', h'.get? a = some o'

theorem Kp.refl {mu : Addr → Prop} {fr : List Addr} {h : Heap} : Kp mu fr h h := ⟨fun _ _ e _ _ => e, fun _ o e _ => ⟨o.slots, e⟩, fun _ o e => ⟨o, e⟩⟩
theorem Kp.none {mu : Addr → Prop} {fr : List Addr} {h h' : Heap} (k : Kp mu fr h h') {a : Addr} (e : h'.get? a = .none) : h.get? a = .none := by
  cases q : h.get? a with
  | none => rfl
  | some o =>
    obtain ⟨o', q'⟩ := k.there a o q
    rw [e] at q'; cases q'
theorem Kp.trans {mu mu' : Addr → Prop} {fr : List Addr} {h h' h'' : Heap} (a : Kp mu fr h h') (b : Kp mu' fr h' h'') (hm : ∀ x o, h.get? x = some o → mu' x → mu x) : Kp mu fr h h'' where
  keep x o e n f := b.keep x o (a.keep x o e n f) (fun q => n (hm x o e q)) f
  slot x o e n := by
    obtain ⟨sl, e1⟩ := a.slot x o e n
    obtain ⟨sl', e2⟩ := b.slot x _ e1 fun q => n (hm x o e q)
    exact ⟨sl', e2⟩
  there x o e := by
    obtain ⟨o1, e1⟩ := a.there x o e
    exact b.there x o1 e1
/-- nothing that stood is changed -/
theorem Kp.of {mu : Addr → Prop} {fr : List Addr} {h h' : Heap} (k : ∀ b o, h.get? b = some o → h'.get? b = some o) : Kp mu fr h h' :=
  ⟨fun a o e _ _ => k a o e, fun a o e _ => ⟨o.slots, k a o e⟩, fun a o e => ⟨o, k a o e⟩⟩

structure FrE (X : Fx) (g : Gh) (st : S) (s : Shared) (g' : Gh) (st' : S) (s' : Shared) : Prop where
  os : s'.os = s.os
  kp : Kp g.mu (L2.frs X.stack) s.heap s'.heap
  fz : ∀ a, g.fz a → g'.fz a
  fzNew : ∀ a, g'.fz a → g.fz a ∨ s.heap.get? a = none ∨ OwnA X st s a
  th : ∃ more, g'.th = g.th ++ more ∧ ∀ p ∈ more, Nw s.heap p
  tk : ∀ t x, g.tk t = some x → g'.tk t = some x
  toks : s.toks ≤ s'.toks
  own : ∀ a, OwnA X st' s' a → OwnA X st s a
  sl : ∀ j, st'.get j = st.get j ∨ st'.get j = none ∨ (VisAt X j ∧ ∃ v, st.get j = some (v, true) ∧ st'.get j = some (v, false))

section
variable {X : Fx} {g g' g'' : Gh} {st st' st'' : S} {s s' s'' : Shared}
theorem mut_of {more : List (Addr × Option Addr)} {h : Heap} (e : g'.th = g.th ++ more) (hm : ∀ p ∈ more, Nw h p) {a : Addr} {o : Obj} (ha : h.get? a = some o) (q : g'.mu a) : g.mu a := by
  obtain ⟨p, hp, e2⟩ := q
  rw [e] at hp
  rcases List.mem_append.mp hp with h | h
  · exact ⟨p, h, e2⟩
  · have := hm p h a e2
    rw [ha] at this; cases this
theorem FrE.refl : FrE X g st s g st s := ⟨rfl, Kp.refl, fun _ e => e, fun _ e => .inl e, ⟨[], by simp, fun _ h => nomatch h⟩, fun _ _ e => e, Nat.le_refl _, fun _ e => e, fun _ => .inl rfl⟩
theorem FrE.trans (a : FrE X g st s g' st' s') (b : FrE X g' st' s' g'' st'' s'') : FrE X g st s g'' st'' s'' where
  os := b.os.trans a.os
  kp := by
    obtain ⟨m, e, hm⟩ := a.th
    exact a.kp.trans b.kp fun x o hx q => mut_of e hm hx q
  fz x e := b.fz x (a.fz x e)
  fzNew x e := by
    rcases b.fzNew x e with h | h | h
    · exact a.fzNew x h
    · exact .inr (.inl (a.kp.none h))
    · exact .inr (.inr (a.own x h))
  th := by
    obtain ⟨m, e, hm⟩ := a.th
    obtain ⟨n, e2, hn⟩ := b.th
    refine ⟨m ++ n, by rw [e2, e, List.append_assoc], fun p hp => ?_⟩
    rcases List.mem_append.mp hp with h | h
    · exact hm p h
    · exact fun b e => a.kp.none (hn p h b e)
  tk t x e := b.tk t x (a.tk t x e)
  toks := Nat.le_trans a.toks b.toks
  own x e := a.own x (b.own x e)
  sl j := by
    rcases b.sl j with h | h | ⟨hv, v, h1, h2⟩
    · rw [h]; exact a.sl j
    · exact .inr (.inl h)
    · rcases a.sl j with k | k | ⟨_, w, k1, k2⟩
      · exact .inr (.inr ⟨hv, v, k ▸ h1, h2⟩)
      · rw [k] at h1; cases h1
      · rw [k2] at h1; cases h1
/-- frozen things stand -/
theorem FrE.mono (r : SR X g st s) (f : FrE X g st s g' st' s') : GMono g g' s.heap s'.heap where
  obj a o hf e := f.kp.keep a o e (fun q => r.gh.thFz a q hf) (fun q => r.fzF a q hf)
  fz := f.fz
  th := let ⟨m, e, _⟩ := f.th; ⟨m, e⟩
  tk := f.tk
end
end Q
end

section
set_option linter.all false
/-! Wp: weakest preconditions of the interpreter. -/
namespace Q
@[simp] theorem LIM_s : LIM = 16777216 := rfl
def Res.W {α : Type} (r : Res α) (Q : α → S → Prop) (E : AV → S → Prop) : Prop :=
  match r with
  | .ok a s => Q a s
  | .exc x s => E x s
  | .stuck => False
def FR.W (r : FR) (Q : AV → Bool → List AV → Prop) (E : AV → List AV → Prop) : Prop :=
  match r with
  | .ok v b hp => Q v b hp
  | .exc x hp => E x hp
  | .stuck => False
section
variable {α β : Type} {C : Oracle} {s : S} {Q : α → S → Prop} {E : AV → S → Prop}
@[simp] theorem W_ok (a : α) (s : S) : (Res.ok a s).W Q E = Q a s := rfl
@[simp] theorem W_exc (x : AV) (s : S) : (Res.exc x s : Res α).W Q E = E x s := rfl
@[simp] theorem W_stuck : (Res.stuck : Res α).W Q E = False := rfl
@[simp] theorem W_bind (r : Res β) (f : β → S → Res α) : (r.bind f).W Q E = r.W (fun a s => (f a s).W Q E) E := by cases r <;> rfl
@[simp] theorem W_ite (p : Prop) [Decidable p] (a b : Res α) : (if p then a else b).W Q E = if p then a.W Q E else b.W Q E := by split <;> rfl
theorem W.mono {r : Res α} {Q' : α → S → Prop} {E' : AV → S → Prop} (h : r.W Q E) (hq : ∀ a s, Q a s → Q' a s) (he : ∀ x s, E x s → E' x s) : r.W Q' E' := by
  cases r with
  | ok a s => exact hq _ _ h
  | exc x s => exact he _ _ h
  | stuck => exact h
theorem W_eq {r : Res α} {a : α} {s' : S} (h : r = .ok a s') (hq : Q a s') : r.W Q E := by rw [h]; exact hq
@[simp] theorem W_ofO_some (a : α) (s : S) : (ofO (some a) s).W Q E = Q a s := rfl
@[simp] theorem W_ofO_none (s : S) : (ofO (none : Option α) s).W Q E = False := rfl
@[simp] theorem W_ofO_ite (p : Prop) [Decidable p] (a : α) (s : S) : (ofO (if p then some a else none) s).W Q E = (p ∧ Q a s) := by
  split <;> simp [*]
@[simp] theorem W_ofO_map (o : Option β) (f : β → α) (s : S) : (ofO (o.map f) s).W Q E = (ofO o s).W (fun a s => Q (f a) s) E := by cases o <;> rfl
@[simp] theorem W_ofO_bind (o : Option β) (f : β → Option α) (s : S) : (ofO (o.bind f) s).W Q E = (ofO o s).W (fun a s => (ofO (f a) s).W Q E) E := by cases o <;> rfl
theorem W_ofO {o : Option α} {a : α} (h : o = some a) (hq : Q a s) : (ofO o s).W Q E := by rw [h]; exact hq
end
section
variable {Q : AV → Bool → List AV → Prop} {E : AV → List AV → Prop}
theorem FR.W.mono {r : FR} {Q' : AV → Bool → List AV → Prop} {E' : AV → List AV → Prop} (h : r.W Q E) (hq : ∀ v b hp, Q v b hp → Q' v b hp) (he : ∀ x hp, E x hp → E' x hp) : r.W Q' E' := by
  cases r with
  | ok a b s => exact hq _ _ _ h
  | exc x s => exact he _ _ h
  | stuck => exact h
end

def frzL (l : List (Option (AV × Bool))) (i : Nat) (o : Option (AV × Bool)) : List (Option (AV × Bool)) :=
  match o with
  | some (v, true) => l.set i (some (v, false))
  | _ => l
@[simp] theorem frzL_t (l : List (Option (AV × Bool))) (i : Nat) (v : AV) : frzL l i (some (v, true)) = l.set i (some (v, false)) := rfl
@[simp] theorem frzL_f (l : List (Option (AV × Bool))) (i : Nat) (v : AV) : frzL l i (some (v, false)) = l := rfl
@[simp] theorem frzL_n (l : List (Option (AV × Bool))) (i : Nat) : frzL l i none = l := rfl
@[simp] theorem frz_mk (l : List (Option (AV × Bool))) (hp : List AV) (i : Nat) : S.frz ⟨l, hp⟩ i = ⟨frzL l i ((l[i]?).getD none), hp⟩ := by
  show (match (l[i]?).getD none with | some (v, true) => (⟨l.set i (some (v, false)), hp⟩ : S) | _ => ⟨l, hp⟩) = _
  unfold frzL
  split <;> simp_all
@[simp] theorem wipeL_nil (l : List (Option (AV × Bool))) : wipeL l [] = l := rfl
@[simp] theorem wipeL_cons (l : List (Option (AV × Bool))) (i : Nat) (r : List Nat) : wipeL l (i :: r) = (wipeL l r).set i none := rfl

/-! ### the expressions -/
section
variable {C : Oracle} {s : S} {Q : AV × Md → S → Prop} {E : AV → S → Prop}
def varW (o : Option (AV × Bool)) (i : Nat) (Q : AV × Md → S → Prop) (s : S) : Prop :=
  match o with
  | some (v, true) => Q (v, .bo i) s
  | some (v, false) => Q (v, .fz) s
  | none => False
@[simp] theorem varW_t (v : AV) (i : Nat) : varW (some (v, true)) i Q s = Q (v, .bo i) s := rfl
@[simp] theorem varW_f (v : AV) (i : Nat) : varW (some (v, false)) i Q s = Q (v, .fz) s := rfl
@[simp] theorem varW_n (i : Nat) : varW none i Q s = False := rfl
@[simp] theorem W_c (v : AV) : (ev C (.c v) s).W Q E = Q (v, .fz) s := by simp [ev]
@[simp] theorem W_v (i : Nat) : (ev C (.v i) s).W Q E = varW (s.get i) i Q s := by
  rw [ev]
  split <;> simp_all
@[simp] theorem W_bin (o : BOp) (a b : IE) : (ev C (.bin o a b) s).W Q E = (ev C a s).W (fun x s => (ev C b s).W (fun y s => (ofO (bop o x.1 y.1) s).W (fun z s => Q (z.1, mdOf z.2) s) E) E) E := by simp [ev]
def negW (v : AV) (Q : AV × Md → S → Prop) (s : S) : Prop :=
  match v with
  | .int i => Q (.int (-i), .fz) s
  | _ => False
@[simp] theorem negW_i (i : Int) : negW (.int i) Q s = Q (.int (-i), .fz) s := rfl
@[simp] theorem W_neg (a : IE) : (ev C (.neg a) s).W Q E = (ev C a s).W (fun x s => negW x.1 Q s) E := by
  rw [ev, W_bind]
  congr
  funext x s
  unfold negW
  split <;> simp_all
@[simp] theorem W_not (a : IE) : (ev C (.not_ a) s).W Q E = (ev C a s).W (fun x s => (ofO (truth x.1) s).W (fun b s => Q (.bl (!b), .fz) s) E) E := by simp [ev]
@[simp] theorem W_cmp (o : COp) (a b : IE) : (ev C (.cmp o a b) s).W Q E = (ev C a s).W (fun x s => (ev C b s).W (fun y s => (ofO (cop o x.1 y.1) s).W (fun z s => Q (.bl z, .fz) s) E) E) E := by simp [ev]
@[simp] theorem W_chain (o p : COp) (a b d : IE) : (ev C (.chain o p a b d) s).W Q E = (ev C a s).W (fun x s => (ev C b s).W (fun y s => (ofO (cop o x.1 y.1) s).W (fun z s =>
      if z then (ev C d s).W (fun u s => (ofO (cop p y.1 u.1) s).W (fun z s => Q (.bl z, .fz) s) E) E else Q (.bl false, .fz) s) E) E) E := by simp [ev]
@[simp] theorem W_and (es : List IE) : (ev C (.and_ es) s).W Q E = (evAnd C es s).W Q E := by simp [ev]
@[simp] theorem W_or (es : List IE) : (ev C (.or_ es) s).W Q E = (evOr C es s).W Q E := by simp [ev]
@[simp] theorem W_ife (t a b : IE) : (ev C (.ife t a b) s).W Q E = (evT C t s).W (fun k s => if k then (ev C a s).W Q E else (ev C b s).W Q E) E := by simp [ev]
@[simp] theorem W_tup (es : List IE) : (ev C (.tup es) s).W Q E = (evs C es s).W (fun xs s => xs.length ≤ LIM ∧ Q (.tup xs, .fz) s) E := by
  rw [ev, W_bind]; congr; funext xs s; rw [W_ite]; split <;> simp [*]
@[simp] theorem W_lst (es : List IE) : (ev C (.lst es) s).W Q E = (evs C es s).W (fun xs s => xs.length ≤ LIM ∧ Q (.lst xs, .fr) s) E := by
  rw [ev, W_bind]; congr; funext xs s; rw [W_ite]; split <;> simp [*]
@[simp] theorem W_call (f : String) (es : List IE) : (ev C (.call f es) s).W Q E = (evs C es s).W (fun xs s => (C f xs s.hp).W (fun v b hp => Q (v, mdOf b) ⟨s.sl, hp⟩) (fun x hp => E x ⟨s.sl, hp⟩)) E := by
  rw [ev, W_bind]; congr; funext xs s; cases C f xs s.hp <;> rfl
@[simp] theorem W_bcall (f : BF) (es : List IE) : (ev C (.bcall f es) s).W Q E = (evB C es s).W (fun xs s => (ofO (bfun f xs s.hp) s).W (fun z s => Q (z.1, mdOf z.2) s) E) E := by simp [ev]
def methW (x : AV) (m : BM) (ys : List AV) (Q : AV × Md → S → Prop) (E : AV → S → Prop) (s : S) : Prop :=
  match x with
  | .ref k => (ofO (hmeth m s.hp[k]? ys) s).W (fun z s => Q (z.1, .fz) (s.hset k z.2)) E
  | v => (ofO (bmeth m v ys) s).W (fun z s => Q (z.1, mdOf z.2) s) E
@[simp] theorem methW_r (k : Nat) (m : BM) (ys : List AV) : methW (.ref k) m ys Q E s = (ofO (hmeth m s.hp[k]? ys) s).W (fun z s => Q (z.1, .fz) (s.hset k z.2)) E := rfl
@[simp] theorem methW_s (t : Tx) (m : BM) (ys : List AV) : methW (.str t) m ys Q E s = (ofO (bmeth m (.str t) ys) s).W (fun z s => Q (z.1, mdOf z.2) s) E := rfl
@[simp] theorem methW_d (x y : List AV) (m : BM) (ys : List AV) : methW (.dct x y) m ys Q E s = (ofO (bmeth m (.dct x y) ys) s).W (fun z s => Q (z.1, mdOf z.2) s) E := rfl
@[simp] theorem W_meth (o : IE) (m : BM) (es : List IE) : (ev C (.meth o m es) s).W Q E = (ev C o s).W (fun x s => recvOk x.1 s.hp = true ∧ (evB C es s).W (fun ys s => methW x.1 m ys Q E s) E) E := by
  rw [ev, W_bind]; congr; funext x s
  by_cases h : recvOk x.1 s.hp = true
  · simp only [h, if_true, W_bind, true_and]
    congr; funext ys s
    unfold methW
    split <;> simp_all
  · simp [h]
@[simp] theorem W_callR (r : FR) : (callR r s).W Q E = r.W (fun v b hp => Q (v, mdOf b) ⟨s.sl, hp⟩) (fun x hp => E x ⟨s.sl, hp⟩) := by cases r <;> rfl
def attrW (C : Oracle) (x : AV) (f : String) (cs : List String) (Q : AV × Md → S → Prop) (E : AV → S → Prop) (s : S) : Prop :=
  match x with
  | .ins c ns vs => if cs.contains c then (C (c ++ "." ++ f) [.ins c ns vs] s.hp).W (fun v b hp => Q (v, mdOf b) ⟨s.sl, hp⟩) (fun x hp => E x ⟨s.sl, hp⟩) else (ofO (insGet f ns vs) s).W (fun z s => Q (z, .fz) s) E
  | _ => False
@[simp] theorem attrW_i (c : String) (ns : List String) (vs : List AV) (f : String) (cs : List String) : attrW C (.ins c ns vs) f cs Q E s = if cs.contains c then (C (c ++ "." ++ f) [.ins c ns vs] s.hp).W (fun v b hp => Q (v, mdOf b) ⟨s.sl, hp⟩) (fun x hp => E x ⟨s.sl, hp⟩) else (ofO (insGet f ns vs) s).W (fun z s => Q (z, .fz) s) E := rfl
@[simp] theorem W_attr (a : IE) (f : String) (cs : List String) : (ev C (.attr a f cs) s).W Q E = (ev C a s).W (fun x s => attrW C x.1 f cs Q E s) E := by
  rw [ev, W_bind]
  congr 1
  funext x s
  obtain ⟨v, md⟩ := x
  cases v <;> first | rfl | skip
  simp only [attrW_i]
  split <;> simp
def dunW (C : Oracle) (x : AV) (d : String) (cs : List String) (es : List IE) (Q : AV × Md → S → Prop) (E : AV → S → Prop) (s : S) : Prop :=
  match x with
  | .ins c ns vs => if cs.contains c then (evs C es s).W (fun xs s => (C (c ++ "." ++ d) (.ins c ns vs :: xs) s.hp).W (fun v b hp => dunOk d v = true ∧ Q (v, mdOf b) ⟨s.sl, hp⟩) (fun x hp => E x ⟨s.sl, hp⟩)) E else False
  | _ => False
@[simp] theorem dunW_i (c : String) (ns : List String) (vs : List AV) (d : String) (cs : List String) (es : List IE) : dunW C (.ins c ns vs) d cs es Q E s = if cs.contains c then (evs C es s).W (fun xs s => (C (c ++ "." ++ d) (.ins c ns vs :: xs) s.hp).W (fun v b hp => dunOk d v = true ∧ Q (v, mdOf b) ⟨s.sl, hp⟩) (fun x hp => E x ⟨s.sl, hp⟩)) E else False := rfl
@[simp] theorem W_dun (a : IE) (d : String) (cs : List String) (es : List IE) : (ev C (.dun d cs a es) s).W Q E = (ev C a s).W (fun x s => dunW C x.1 d cs es Q E s) E := by
  rw [ev, W_bind]
  congr 1
  funext x s
  obtain ⟨v, md⟩ := x
  cases v <;> first | rfl | skip
  simp only [dunW_i]
  split
  · simp only [W_bind, W_callR]
    congr 1
    funext xs s
    congr 1
    funext v b hp
    by_cases h : dunOk d v = true
    · rw [if_pos h]; simp [h]
    · rw [if_neg h]; simp [h]
  · simp
@[simp] theorem ssetX_s (x : Tx) : ssetX (.str x) = if (∀ c ∈ x, c < 128) ∧ x.length < 4000 ∧ (sgn x).length < 64 then some (.lst ((sgn x).map fun c => .str [c])) else none := rfl
@[simp] theorem W_sset (a : IE) : (ev C (.sset a) s).W Q E = (ev C a s).W (fun x s => (ofO (ssetX x.1) s).W (fun z s => Q (z, .fr) s) E) E := by simp [ev]
@[simp] theorem W_rev (a : IE) : (ev C (.rev a) s).W Q E = (ev C a s).W (fun x s => (ofO (revV x.1) s).W (fun z s => Q (z.1, mdOf z.2) s) E) E := by simp [ev]
@[simp] theorem W_ix (a i : IE) : (ev C (.ix a i) s).W Q E = (ev C a s).W (fun x s => (ev C i s).W (fun y s => (ofO (ixV x.1 y.1 s.hp) s).W (fun z s => Q (z, .fz) s) E) E) E := by simp [ev]
@[simp] theorem W_sl (a lo hi : IE) : (ev C (.sl a lo hi) s).W Q E = (ev C a s).W (fun x s => (ev C lo s).W (fun l s => (ev C hi s).W (fun h s => (ofO (slV x.1 l.1 h.1) s).W (fun z s => Q (z.1, mdOf z.2) s) E) E) E) E := by simp [ev]
/-- one turn of a comprehension -/
noncomputable def lcF (C : Oracle) (elt : IE) (own : List Nat) (t : ITg) (cs : List IE) : AV → S → Res (Option AV) := fun x s =>
  match asgT t x false s with
  | none => .stuck
  | some s => (evC C cs s).bind fun k s => if k then (ev C elt s).bind fun y s => .ok (some y.1) ((s.esc y.2).wipe own) else .ok none (s.wipe own)
@[simp] theorem W_lc (elt : IE) (own : List Nat) (t : ITg) (it : IE) (cs : List IE) : (ev C (.lc elt own t it cs) s).W Q E =
    (evI C it s).W (fun xs s => (lcI (lcF C elt own t cs) xs [] (s.wipe own)).W (fun ys s => Q (.lst ys, .fr) s) E) E := by
  rw [ev, W_bind]; congr; funext xs s; rw [W_bind]; rfl
theorem W_lcF (elt : IE) (own : List Nat) (t : ITg) (cs : List IE) (x : AV) (s : S) (R : Option AV → S → Prop) : (lcF C elt own t cs x s).W R E =
    (ofO (asgT t x false s) s).W (fun s _ => (evC C cs s).W (fun k s => if k then (ev C elt s).W (fun y s => R (some y.1) ((s.esc y.2).wipe own)) E else R none (s.wipe own)) E) E := by
  unfold lcF
  cases asgT t x false s <;> simp
end
section
variable {C : Oracle} {s : S} {E : AV → S → Prop}
@[simp] theorem W_evs_nil {Q : List AV → S → Prop} : (evs C [] s).W Q E = Q [] s := by simp [evs]
@[simp] theorem W_evs_cons {Q : List AV → S → Prop} (e : IE) (r : List IE) : (evs C (e :: r) s).W Q E = (ev C e s).W (fun x s => (evs C r (s.esc x.2)).W (fun xs s => Q (x.1 :: xs) s) E) E := by simp [evs]
@[simp] theorem W_evB_nil {Q : List AV → S → Prop} : (evB C [] s).W Q E = Q [] s := by simp [evB]
@[simp] theorem W_evB_cons {Q : List AV → S → Prop} (e : IE) (r : List IE) : (evB C (e :: r) s).W Q E = (ev C e s).W (fun x s => (evB C r s).W (fun xs s => Q (x.1 :: xs) s) E) E := by simp [evB]
def andW (o : Option Bool) (P R : Prop) : Prop :=
  match o with
  | some true => P
  | some false => R
  | none => False
@[simp] theorem andW_b (b : Bool) (P R : Prop) : andW (some b) P R = if b then P else R := by cases b <;> rfl
@[simp] theorem W_evAnd_one {Q : AV × Md → S → Prop} (e : IE) : (evAnd C [e] s).W Q E = (ev C e s).W Q E := by rw [evAnd]
@[simp] theorem W_evAnd_cons {Q : AV × Md → S → Prop} (e d : IE) (r : List IE) : (evAnd C (e :: d :: r) s).W Q E = (ev C e s).W (fun x s => andW (truth x.1) ((evAnd C (d :: r) s).W Q E) (Q x s)) E := by
  rw [evAnd, W_bind]
  · congr; funext x s; unfold andW; split <;> simp_all
  · simp
@[simp] theorem W_evOr_one {Q : AV × Md → S → Prop} (e : IE) : (evOr C [e] s).W Q E = (ev C e s).W Q E := by rw [evOr]
@[simp] theorem W_evOr_cons {Q : AV × Md → S → Prop} (e d : IE) (r : List IE) : (evOr C (e :: d :: r) s).W Q E = (ev C e s).W (fun x s => andW (truth x.1) (Q x s) ((evOr C (d :: r) s).W Q E)) E := by
  rw [evOr, W_bind]
  · congr; funext x s; unfold andW; split <;> simp_all
  · simp
@[simp] theorem W_evC_nil {Q : Bool → S → Prop} : (evC C [] s).W Q E = Q true s := by simp [evC]
@[simp] theorem W_evC_cons {Q : Bool → S → Prop} (e : IE) (r : List IE) : (evC C (e :: r) s).W Q E = (evT C e s).W (fun k s => if k then (evC C r s).W Q E else Q false s) E := by simp [evC]
@[simp] theorem W_evT_not {Q : Bool → S → Prop} (a : IE) : (evT C (.not_ a) s).W Q E = (evT C a s).W (fun k s => Q (!k) s) E := by simp [evT]
@[simp] theorem W_evT_and {Q : Bool → S → Prop} (es : List IE) : (evT C (.and_ es) s).W Q E = (evTA C es s).W Q E := by simp [evT]
@[simp] theorem W_evT_or {Q : Bool → S → Prop} (es : List IE) : (evT C (.or_ es) s).W Q E = (evTO C es s).W Q E := by simp [evT]
@[simp] theorem W_evT_ife {Q : Bool → S → Prop} (t a b : IE) : (evT C (.ife t a b) s).W Q E = (evT C t s).W (fun k s => if k then (evT C a s).W Q E else (evT C b s).W Q E) E := by simp [evT]
def plainTW : IE → Bool
  | .not_ _ => false
  | .and_ _ => false
  | .or_ _ => false
  | .ife _ _ _ => false
  | _ => true
theorem evT_plainW (e : IE) (h : plainTW e = true) : evT C e s = (ev C e s).bind fun x s => ofO (truth x.1) s := by
  cases e <;> first | (rw [evT]; all_goals (intros; contradiction)) | (exfalso; revert h; simp [plainTW])
theorem W_evT_p {Q : Bool → S → Prop} (e : IE) (h : plainTW e = true) : (evT C e s).W Q E = (ev C e s).W (fun x s => (ofO (truth x.1) s).W Q E) E := by
  rw [evT_plainW e h, W_bind]
@[simp] theorem W_evT_cmp {Q : Bool → S → Prop} (o : COp) (a b : IE) : (evT C (.cmp o a b) s).W Q E = (ev C a s).W (fun x s => (ev C b s).W (fun y s => (ofO (cop o x.1 y.1) s).W Q E) E) E := by
  rw [W_evT_p _ rfl]; simp
@[simp] theorem W_evT_chain {Q : Bool → S → Prop} (o p : COp) (a b d : IE) : (evT C (.chain o p a b d) s).W Q E = (ev C (.chain o p a b d) s).W (fun x s => (ofO (truth x.1) s).W Q E) E := W_evT_p _ rfl
@[simp] theorem W_evT_v {Q : Bool → S → Prop} (i : Nat) : (evT C (.v i) s).W Q E = (ev C (.v i) s).W (fun x s => (ofO (truth x.1) s).W Q E) E := W_evT_p _ rfl
@[simp] theorem W_evT_call {Q : Bool → S → Prop} (f : String) (es : List IE) : (evT C (.call f es) s).W Q E = (ev C (.call f es) s).W (fun x s => (ofO (truth x.1) s).W Q E) E := W_evT_p _ rfl
@[simp] theorem W_evT_bcall {Q : Bool → S → Prop} (f : BF) (es : List IE) : (evT C (.bcall f es) s).W Q E = (ev C (.bcall f es) s).W (fun x s => (ofO (truth x.1) s).W Q E) E := W_evT_p _ rfl
@[simp] theorem W_evT_meth {Q : Bool → S → Prop} (o : IE) (m : BM) (es : List IE) : (evT C (.meth o m es) s).W Q E = (ev C (.meth o m es) s).W (fun x s => (ofO (truth x.1) s).W Q E) E := W_evT_p _ rfl
@[simp] theorem W_evT_c {Q : Bool → S → Prop} (v : AV) : (evT C (.c v) s).W Q E = (ofO (truth v) s).W Q E := by rw [W_evT_p _ rfl]; simp
@[simp] theorem W_evT_ix {Q : Bool → S → Prop} (a i : IE) : (evT C (.ix a i) s).W Q E = (ev C (.ix a i) s).W (fun x s => (ofO (truth x.1) s).W Q E) E := W_evT_p _ rfl
@[simp] theorem W_evT_sl {Q : Bool → S → Prop} (a i j : IE) : (evT C (.sl a i j) s).W Q E = (ev C (.sl a i j) s).W (fun x s => (ofO (truth x.1) s).W Q E) E := W_evT_p _ rfl
@[simp] theorem W_evT_attr {Q : Bool → S → Prop} (a : IE) (f : String) (cs : List String) : (evT C (.attr a f cs) s).W Q E = (ev C (.attr a f cs) s).W (fun x s => (ofO (truth x.1) s).W Q E) E := W_evT_p _ rfl
@[simp] theorem W_evTA_nil {Q : Bool → S → Prop} : (evTA C [] s).W Q E = Q true s := by simp [evTA]
@[simp] theorem W_evTA_cons {Q : Bool → S → Prop} (e : IE) (r : List IE) : (evTA C (e :: r) s).W Q E = (evT C e s).W (fun k s => if k then (evTA C r s).W Q E else Q false s) E := by simp [evTA]
@[simp] theorem W_evTO_nil {Q : Bool → S → Prop} : (evTO C [] s).W Q E = Q false s := by simp [evTO]
@[simp] theorem W_evTO_cons {Q : Bool → S → Prop} (e : IE) (r : List IE) : (evTO C (e :: r) s).W Q E = (evT C e s).W (fun k s => if k then Q true s else (evTO C r s).W Q E) E := by simp [evTO]
/-- what is walked -/
def rng1W (v : AV) (Q : List AV → S → Prop) (s : S) : Prop :=
  match v with
  | .int j => -(2 ^ 62) ≤ j ∧ j < 2 ^ 62 ∧ Q (rngL 0 j.toNat) s
  | _ => False
@[simp] theorem rng1W_i (j : Int) (Q : List AV → S → Prop) : rng1W (.int j) Q s = (-(2 ^ 62) ≤ j ∧ j < 2 ^ 62 ∧ Q (rngL 0 j.toNat) s) := rfl
@[simp] theorem W_rng1 {Q : List AV → S → Prop} (a : IE) : (evI C (.rng1 a) s).W Q E = (ev C a s).W (fun x s => rng1W x.1 Q s) E := by
  rw [evI, W_bind]; congr; funext x s; unfold rng1W
  split
  · rw [W_ite]; split <;> rename_i h <;> simp only [W_ok, W_stuck, eq_iff_iff, false_iff] <;> grind
  · simp_all
def rng2W (v w : AV) (Q : List AV → S → Prop) (s : S) : Prop :=
  match v, w with
  | .int i, .int j => -(2 ^ 62) ≤ i ∧ i < 2 ^ 62 ∧ -(2 ^ 62) ≤ j ∧ j < 2 ^ 62 ∧ Q (rngL i (j - i).toNat) s
  | _, _ => False
@[simp] theorem rng2W_i (i j : Int) (Q : List AV → S → Prop) : rng2W (.int i) (.int j) Q s = (-(2 ^ 62) ≤ i ∧ i < 2 ^ 62 ∧ -(2 ^ 62) ≤ j ∧ j < 2 ^ 62 ∧ Q (rngL i (j - i).toNat) s) := rfl
@[simp] theorem W_rng2 {Q : List AV → S → Prop} (a b : IE) : (evI C (.rng2 a b) s).W Q E = (ev C a s).W (fun x s => (ev C b s).W (fun y s => rng2W x.1 y.1 Q s) E) E := by
  rw [evI, W_bind]; congr; funext x s; rw [W_bind]; congr; funext y s; unfold rng2W
  split
  · rw [W_ite]; split <;> rename_i h <;> simp only [W_ok, W_stuck, eq_iff_iff, false_iff] <;> grind
  · simp_all
def plainIW : IE → Bool
  | .zipi _ _ _ _ => false
  | .rng1 _ => false
  | .rng2 _ _ => false
  | .enum _ => false
  | .zip _ _ => false
  | _ => true
theorem W_evI_p {Q : List AV → S → Prop} (e : IE) (h : plainIW e = true) : (evI C e s).W Q E = (ev C e s).W (fun x s => (ofO (itemsOf x.1) s).W (fun xs s => Q xs (s.esc x.2)) E) E := by
  have : evI C e s = (ev C e s).bind fun x s => (ofO (itemsOf x.1) s).bind fun xs s => .ok xs (s.esc x.2) := by
    cases e <;> first | (rw [evI]; all_goals (intros; contradiction)) | (exfalso; revert h; simp [plainIW])
  rw [this]; simp
def zipiW (c f : String) (x y : AV) (Q : List AV → S → Prop) (s : S) : Prop :=
  match x, y with
  | .ins c' ns vs, .tup ys => c' = c ∧ (ofO (lstF (insGet f ns vs)) s).W (fun xs s => Q (zipL xs ys) s) fun _ _ => False
  | _, _ => False
@[simp] theorem zipiW_i (c f c' : String) (ns : List String) (vs ys : List AV) (Q : List AV → S → Prop) : zipiW c f (.ins c' ns vs) (.tup ys) Q s = (c' = c ∧ (ofO (lstF (insGet f ns vs)) s).W (fun xs s => Q (zipL xs ys) s) fun _ _ => False) := rfl
theorem W_zipi {Q : List AV → S → Prop} (c f : String) (a b : IE) (h : (ev C a s).W (fun x s => (ev C b s).W (fun y s => zipiW c f x.1 y.1 Q s) E) E) : (evI C (.zipi c f a b) s).W Q E := by
  rw [evI, W_bind]
  refine W.mono h (fun x s h => ?_) fun _ _ h => h
  rw [W_bind]
  refine W.mono h (fun y s h => ?_) fun _ _ h => h
  obtain ⟨v, md⟩ := x
  obtain ⟨w, md2⟩ := y
  cases v with
  | ins c' ns vs =>
    cases w with
    | tup ys =>
      have h : c' = c ∧ (ofO (lstF (insGet f ns vs)) s).W (fun xs s => Q (zipL xs ys) s) (fun _ _ => False) := h
      simp only [h.1, if_true, W_bind]
      exact W.mono h.2 (fun _ _ h => h) fun _ _ h => h.elim
    | _ => exact h.elim
  | _ => exact h.elim
@[simp] theorem W_evI_attr {Q : List AV → S → Prop} (a : IE) (f : String) (cs : List String) : (evI C (.attr a f cs) s).W Q E = (ev C (.attr a f cs) s).W (fun x s => (ofO (itemsOf x.1) s).W (fun xs s => Q xs (s.esc x.2)) E) E := W_evI_p _ rfl
@[simp] theorem W_evI_rev {Q : List AV → S → Prop} (a : IE) : (evI C (.rev a) s).W Q E = (ev C (.rev a) s).W (fun x s => (ofO (itemsOf x.1) s).W (fun xs s => Q xs (s.esc x.2)) E) E := W_evI_p _ rfl
@[simp] theorem W_evI_v {Q : List AV → S → Prop} (i : Nat) : (evI C (.v i) s).W Q E = (ev C (.v i) s).W (fun x s => (ofO (itemsOf x.1) s).W (fun xs s => Q xs (s.esc x.2)) E) E := W_evI_p _ rfl
@[simp] theorem W_evI_bcall {Q : List AV → S → Prop} (f : BF) (es : List IE) : (evI C (.bcall f es) s).W Q E = (ev C (.bcall f es) s).W (fun x s => (ofO (itemsOf x.1) s).W (fun xs s => Q xs (s.esc x.2)) E) E := W_evI_p _ rfl
@[simp] theorem W_evI_call {Q : List AV → S → Prop} (f : String) (es : List IE) : (evI C (.call f es) s).W Q E = (ev C (.call f es) s).W (fun x s => (ofO (itemsOf x.1) s).W (fun xs s => Q xs (s.esc x.2)) E) E := W_evI_p _ rfl
@[simp] theorem W_evI_sl {Q : List AV → S → Prop} (a b c : IE) : (evI C (.sl a b c) s).W Q E = (ev C (.sl a b c) s).W (fun x s => (ofO (itemsOf x.1) s).W (fun xs s => Q xs (s.esc x.2)) E) E := W_evI_p _ rfl
@[simp] theorem W_evI_lst {Q : List AV → S → Prop} (es : List IE) : (evI C (.lst es) s).W Q E = (ev C (.lst es) s).W (fun x s => (ofO (itemsOf x.1) s).W (fun xs s => Q xs (s.esc x.2)) E) E := W_evI_p _ rfl
@[simp] theorem W_evI_ix {Q : List AV → S → Prop} (a b : IE) : (evI C (.ix a b) s).W Q E = (ev C (.ix a b) s).W (fun x s => (ofO (itemsOf x.1) s).W (fun xs s => Q xs (s.esc x.2)) E) E := W_evI_p _ rfl
@[simp] theorem W_evI_bin {Q : List AV → S → Prop} (o : BOp) (a b : IE) : (evI C (.bin o a b) s).W Q E = (ev C (.bin o a b) s).W (fun x s => (ofO (itemsOf x.1) s).W (fun xs s => Q xs (s.esc x.2)) E) E := W_evI_p _ rfl
end

/-! ### the statements -/
section
variable {C : Oracle} {s : S} {Q : Fl → S → Prop} {E : AV → S → Prop}
def flK (fl : Fl) (s : S) (K : S → Prop) (Q : Fl → S → Prop) : Prop :=
  match fl with
  | .nx => K s
  | f => Q f s
@[simp] theorem flK_nx (K : S → Prop) : flK .nx s K Q = K s := rfl
@[simp] theorem flK_bk (K : S → Prop) : flK .bk s K Q = Q .bk s := rfl
@[simp] theorem flK_ct (K : S → Prop) : flK .ct s K Q = Q .ct s := rfl
@[simp] theorem flK_rt (K : S → Prop) (v : AV) (md : Md) : flK (.rt v md) s K Q = Q (.rt v md) s := rfl
@[simp] theorem W_exs_nil : (exs C [] s).W Q E = Q .nx s := by simp [exs]
theorem W_exs_cons (i : IS) (r : List IS) : (exs C (i :: r) s).W Q E = (ex C i s).W (fun fl s => flK fl s (fun s => (exs C r s).W Q E) Q) E := by
  rw [exs]
  cases ex C i s with
  | ok fl s => cases fl <;> rfl
  | exc x s => rfl
  | stuck => rfl
theorem W_cons {i : IS} {r : List IS} (h : (ex C i s).W (fun fl s => flK fl s (fun s => (exs C r s).W Q E) Q) E) : (exs C (i :: r) s).W Q E := by rw [W_exs_cons]; exact h
/-- a statement, and what holds behind it -/
theorem W_cut {i : IS} {r : List IS} (I : S → Prop) (h1 : ∀ K : S → Prop, (∀ s, I s → K s) → (ex C i s).W (fun fl s => flK fl s K Q) E) (h2 : ∀ s, I s → (exs C r s).W Q E) : (exs C (i :: r) s).W Q E :=
  W_cons (h1 _ h2)
@[simp] theorem W_asg (t : ITg) (e : IE) : (ex C (.asg t e) s).W Q E = (ev C e s).W (fun x s => (ofO (asgM t x.1 x.2 s) s).W (fun s' _ => Q .nx s') E) E := by simp [ex]
@[simp] theorem W_asgr (i : Nat) (e : IE) : (ex C (.asgr i e) s).W Q E = (ev C e s).W (fun x s => (ofO (asgR i x.1 x.2 s) s).W (fun s' _ => Q .nx s') E) E := by simp [ex]
@[simp] theorem W_aset (j : Nat) (i e : IE) : (ex C (.aset j i e) s).W Q E = (ev C e s).W (fun z s => ((s.esc z.2).get j).isSome = true ∧ (ev C i (s.esc z.2)).W (fun y s => (ofO (aset1 s j y.1 z.1) s).W (fun s' _ => Q .nx s') E) E) E := by
  rw [ex, W_bind]; congr; funext z s
  by_cases h : ((s.esc z.2).get j).isSome = true
  · rw [if_pos h]; simp [h]
  · rw [if_neg h]; simp [h]
@[simp] theorem W_expr (e : IE) : (ex C (.expr e) s).W Q E = (ev C e s).W (fun _ s => Q .nx s) E := by simp [ex]
@[simp] theorem W_app (i : Nat) (e : IE) : (ex C (.app i e) s).W Q E = (appOk s i = true ∧ (ev C e s).W (fun x s => (ofO (app1 (s.esc x.2) i x.1) s).W (fun s' _ => Q .nx s') E) E) := by
  rw [ex]
  by_cases h : appOk s i = true
  · rw [if_pos h]; simp only [W_bind, W_ok, h, true_and]
  · rw [if_neg h, W_stuck]; exact propext ⟨False.elim, fun p => absurd p.1 h⟩
@[simp] theorem W_ret (e : IE) : (ex C (.ret e) s).W Q E = (ev C e s).W (fun x s => Q (.rt x.1 x.2) s) E := by simp [ex]
@[simp] theorem W_retN : (ex C .retN s).W Q E = Q (.rt .non .fz) s := by simp [ex]
@[simp] theorem W_if (t : IE) (a b : List IS) : (ex C (.ite t a b) s).W Q E = (evT C t s).W (fun k s => if k then (exs C a s).W Q E else (exs C b s).W Q E) E := by simp [ex]
/-- the walk over items -/
noncomputable def forB (C : Oracle) (t : ITg) (body : List IS) (xs : List AV) (s : S) : Res Fl := forI (fun x s => (ofO (asgT t x false s) s).bind fun s' _ => exs C body s') xs s
@[simp] theorem W_for (t : ITg) (it : IE) (body : List IS) : (ex C (.for_ t it body) s).W Q E = (evI C it s).W (fun xs s => (forB C t body xs s).W Q E) E := by rw [ex, W_bind]; rfl
noncomputable def whlF (C : Oracle) (t : IE) (body : List IS) : S → Res (Option Fl) := fun s => (evT C t s).bind fun k s => if k then (exs C body s).bind fun f s => match f with
      | .nx => .ok none s
      | .ct => .ok none s
      | .bk => .ok (some .nx) s
      | .rt v md => .ok (some (.rt v md)) s
    else .ok (some .nx) s
@[simp] theorem W_whl (t : IE) (body : List IS) : (ex C (.whl t body) s).W Q E = (whlI (whlF C t body) s).W Q E := by rw [ex]; rfl
@[simp] theorem W_brk : (ex C .brk s).W Q E = Q .bk s := by simp [ex]
@[simp] theorem W_cnt : (ex C .cnt s).W Q E = Q .ct s := by simp [ex]
@[simp] theorem W_stk {Q : Fl → S → Prop} : (ex C .stk s).W Q E = False := by simp [ex]
@[simp] theorem W_pass : (ex C .pass s).W Q E = Q .nx s := by simp [ex]
@[simp] theorem W_mtch (e : IE) (ps : List IPat) (bs : List (List IS)) : (ex C (.mtch e ps bs) s).W Q E = (ev C e s).W (fun x s => (exM C ps bs x.1 (s.esc x.2)).W Q E) E := by simp [ex]
@[simp] theorem W_exM_nil (v : AV) : (exM C [] [] v s).W Q E = Q .nx s := by simp [exM]
def patW (o : Option (Option (List (Nat × AV)))) (P : List (Nat × AV) → Prop) (R : Prop) : Prop :=
  match o with
  | some (some l) => P l
  | some none => R
  | none => False
@[simp] theorem patW_some (l : List (Nat × AV)) (P : List (Nat × AV) → Prop) (R : Prop) : patW (some (some l)) P R = P l := rfl
@[simp] theorem patW_no (P : List (Nat × AV) → Prop) (R : Prop) : patW (some none) P R = R := rfl
theorem W_exM_cons (p : IPat) (ps : List IPat) (b : List IS) (bs : List (List IS)) (v : AV) : (exM C (p :: ps) (b :: bs) v s).W Q E = patW (patB p v) (fun l => (exs C b (putB l s)).W Q E) ((exM C ps bs v s).W Q E) := by
  rw [exM]
  unfold patW
  split <;> simp_all
@[simp] theorem putB_nil (s : S) : putB [] s = s := rfl
@[simp] theorem putB_cons (p : Nat × AV) (r : List (Nat × AV)) (s : S) : putB (p :: r) s = putB r (s.put p.1 p.2 false) := rfl

/-! ### loops -/
theorem W_forI {f : AV → S → Res Fl} : ∀ (xs done : List AV) (s : S) (I : List AV → S → Prop) (_ : I done s)
    (_ : ∀ d x r s, done ++ xs = d ++ x :: r → I d s → (f x s).W (fun fl s => match fl with
      | .nx => I (d ++ [x]) s
      | .ct => I (d ++ [x]) s
      | .bk => Q .nx s
      | .rt v md => Q (.rt v md) s) E)
    (_ : ∀ s, I (done ++ xs) s → Q .nx s), (forI f xs s).W Q E
  | [], done, s, I, h0, _, h2 => h2 s (by rw [List.append_nil]; exact h0)
  | x :: r, done, s, I, h0, h1, h2 => by
    have h := h1 done x r s rfl h0
    rw [forI]
    cases hf : f x s with
    | stuck => rw [hf] at h; exact h
    | exc y s' => rw [hf] at h; exact h
    | ok fl s' =>
      rw [hf] at h
      cases fl with
      | nx => exact W_forI r (done ++ [x]) s' I h (by rw [List.append_assoc]; exact h1) (by rw [List.append_assoc]; exact h2)
      | ct => exact W_forI r (done ++ [x]) s' I h (by rw [List.append_assoc]; exact h1) (by rw [List.append_assoc]; exact h2)
      | bk => exact h
      | rt v md => exact h
/-- what a turn leaves -/
def flL (fl : Fl) (s : S) (I : S → Prop) (Q : Fl → S → Prop) : Prop :=
  match fl with
  | .nx => I s
  | .ct => I s
  | .bk => Q .nx s
  | .rt v md => Q (.rt v md) s
@[simp] theorem flL_nx (K : S → Prop) : flL .nx s K Q = K s := rfl
@[simp] theorem flL_ct (K : S → Prop) : flL .ct s K Q = K s := rfl
@[simp] theorem flL_bk (K : S → Prop) : flL .bk s K Q = Q .nx s := rfl
@[simp] theorem flL_rt (K : S → Prop) (v : AV) (md : Md) : flL (.rt v md) s K Q = Q (.rt v md) s := rfl
theorem W_for_inv {t : ITg} {body : List IS} {xs : List AV} (I : List AV → S → Prop) (h0 : I [] s)
    (h1 : ∀ d x r s (K : S → Prop), xs = d ++ x :: r → I d s → (∀ s, I (d ++ [x]) s → K s) → (ofO (asgT t x false s) s).W (fun s' _ => (exs C body s').W (fun fl s => flL fl s K Q) E) E)
    (h2 : ∀ s, I xs s → Q .nx s) : (forB C t body xs s).W Q E := by
  refine W_forI xs [] s I h0 (fun d x r s e hi => ?_) (fun s h => h2 s h)
  have h := h1 d x r s (I (d ++ [x])) e hi fun _ h => h
  rw [W_bind]
  refine W.mono h (fun a _ h => W.mono h (fun fl s h => ?_) fun _ _ h => h) fun _ _ h => h
  cases fl <;> exact h
/-- a walk over numbers -/
theorem W_for_rng {t : ITg} {body : List IS} {n : Nat} {lo : Int} (I : Nat → S → Prop) (h0 : I 0 s)
    (h1 : ∀ k s (K : S → Prop), k < n → I k s → (∀ s, I (k + 1) s → K s) → (ofO (asgT t (.int (lo + k)) false s) s).W (fun s' _ => (exs C body s').W (fun fl s => flL fl s K Q) E) E)
    (h2 : ∀ s, I n s → Q .nx s) : (forB C t body (rngL lo n) s).W Q E := by
  refine W_for_inv (fun d s => I d.length s) h0 (fun d x r s K e hi hK => ?_) (fun s h => h2 s (by simpa [rngL] using h))
  have hl : d.length < n := by
    have := congrArg List.length e
    simp [rngL] at this
    omega
  have hx : x = .int (lo + d.length) := by
    have := congrArg (fun l : List AV => l[d.length]?) e
    simp [rngL, hl] at this
    exact this.symm
  rw [hx]
  exact h1 d.length s K hl hi fun s h => hK s (by rw [List.length_append]; exact h)
end
section
variable {C : Oracle} {s : S} {E : AV → S → Prop}
theorem W_lcI {f : AV → S → Res (Option AV)} {Q : List AV → S → Prop} : ∀ (xs done acc : List AV) (s : S) (I : List AV → List AV → S → Prop) (_ : I done acc s)
    (_ : ∀ d x r acc s, done ++ xs = d ++ x :: r → I d acc s → (f x s).W (fun o s => match o with
      | some y => acc.length < LIM ∧ I (d ++ [x]) (acc ++ [y]) s
      | none => I (d ++ [x]) acc s) E)
    (_ : ∀ acc s, I (done ++ xs) acc s → Q acc s), (lcI f xs acc s).W Q E
  | [], done, acc, s, I, h0, _, h2 => h2 acc s (by rw [List.append_nil]; exact h0)
  | x :: r, done, acc, s, I, h0, h1, h2 => by
    have h := h1 done x r acc s rfl h0
    rw [lcI]
    cases hf : f x s with
    | stuck => rw [hf] at h; exact h
    | exc y s' => rw [hf] at h; exact h
    | ok o s' =>
      rw [hf] at h
      cases o with
      | none => exact W_lcI r (done ++ [x]) acc s' I h (by rw [List.append_assoc]; exact h1) (by rw [List.append_assoc]; exact h2)
      | some y =>
        have h' : acc.length < LIM ∧ I (done ++ [x]) (acc ++ [y]) s' := h
        show (if acc.length < LIM then lcI f r (acc ++ [y]) s' else .stuck).W Q E
        rw [if_pos h'.1]
        exact W_lcI r (done ++ [x]) (acc ++ [y]) s' I h'.2 (by rw [List.append_assoc]; exact h1) (by rw [List.append_assoc]; exact h2)
/-- a comprehension without a test -/
theorem W_lc_inv {elt : IE} {own : List Nat} {t : ITg} {xs : List AV} {Q : List AV → S → Prop} (I : List AV → List AV → S → Prop) (h0 : I [] [] s) (hL : xs.length ≤ LIM)
    (hI : ∀ d acc s, I d acc s → acc.length ≤ d.length)
    (h1 : ∀ d x r acc s (K : AV → S → Prop), xs = d ++ x :: r → I d acc s → (∀ y s, I (d ++ [x]) (acc ++ [y]) s → K y s) → (ofO (asgT t x false s) s).W (fun s _ => (ev C elt s).W (fun y s => K y.1 ((s.esc y.2).wipe own)) E) E)
    (h2 : ∀ acc s, I xs acc s → Q acc s) : (lcI (lcF C elt own t []) xs [] s).W Q E := by
  refine W_lcI xs [] [] s I h0 (fun d x r acc s e hi => ?_) (fun acc s h => h2 acc s h)
  rw [W_lcF]
  refine W.mono (h1 d x r acc s (fun y s => I (d ++ [x]) (acc ++ [y]) s) e hi fun _ _ h => h) (fun s _ h => ?_) fun _ _ h => h
  simp only [W_evC_nil, if_true]
  refine W.mono h (fun y s h => ⟨?_, h⟩) fun _ _ h => h
  have := hI d acc _ hi
  have e' := congrArg List.length e
  simp at e'
  omega
theorem W_lc_rng {elt : IE} {own : List Nat} {t : ITg} {n : Nat} {lo : Int} {Q : List AV → S → Prop} (I : Nat → List AV → S → Prop) (h0 : I 0 [] s) (hL : n ≤ LIM)
    (hI : ∀ k acc s, I k acc s → acc.length ≤ k)
    (h1 : ∀ k acc s (K : AV → S → Prop), k < n → I k acc s → (∀ y s, I (k + 1) (acc ++ [y]) s → K y s) → (ofO (asgT t (.int (lo + k)) false s) s).W (fun s _ => (ev C elt s).W (fun y s => K y.1 ((s.esc y.2).wipe own)) E) E)
    (h2 : ∀ acc s, I n acc s → Q acc s) : (lcI (lcF C elt own t []) (rngL lo n) [] s).W Q E := by
  refine W_lc_inv (fun d acc s => I d.length acc s) h0 (by simpa [rngL] using hL) (fun d acc s h => hI _ _ _ h) (fun d x r acc s K e hi hK => ?_) (fun acc s h => h2 acc s (by simpa [rngL] using h))
  have hl : d.length < n := by
    have := congrArg List.length e
    simp [rngL] at this
    omega
  have hx : x = .int (lo + d.length) := by
    have := congrArg (fun l : List AV => l[d.length]?) e
    simp [rngL, hl] at this
    exact this.symm
  rw [hx]
  exact h1 d.length acc s K hl hi fun y s h => hK y s (by rw [List.length_append]; exact h)
end

/-! ### defs -/
section
variable {C : Oracle} {Q : AV → Bool → List AV → Prop} {E : AV → List AV → Prop}
def rtW (fl : Fl) (s : S) (Q : AV → Bool → List AV → Prop) : Prop :=
  match fl with
  | .rt v md => Q v (match md with | .fz => false | _ => true) s.hp
  | .nx => Q .non false s.hp
  | _ => False
@[simp] theorem rtW_fz (v : AV) (s : S) : rtW (.rt v .fz) s Q = Q v false s.hp := rfl
@[simp] theorem rtW_fr (v : AV) (s : S) : rtW (.rt v .fr) s Q = Q v true s.hp := rfl
@[simp] theorem rtW_bo (v : AV) (i : Nat) (s : S) : rtW (.rt v (.bo i)) s Q = Q v true s.hp := rfl
@[simp] theorem rtW_nx (s : S) : rtW .nx s Q = Q .non false s.hp := rfl
theorem W_run {f : IFn} {as : List AV} {hp : List AV} (hl : as.length = f.np) (h : (exs C f.body (startS f.nn as hp)).W (fun fl s => rtW fl s Q) (fun x s => E x s.hp)) : (run C f as hp).W Q E := by
  unfold run
  rw [if_pos hl]
  cases he : exs C f.body (startS f.nn as hp) with
  | stuck => rw [he] at h; exact h
  | exc x s => rw [he] at h; exact h
  | ok fl s => rw [he] at h; cases fl <;> exact h
end
/-! ### lists that rise -/
theorem rise_eq : ∀ {l m : List Nat}, l.Pairwise (· < ·) → m.Pairwise (· < ·) → (∀ c, c ∈ l ↔ c ∈ m) → l = m
  | [], [], _, _, _ => rfl
  | [], y :: m, _, _, h => by simpa using (h y).2 (by simp)
  | x :: l, [], _, _, h => by simpa using (h x).1 (by simp)
  | x :: l, y :: m, hl, hm, h => by
    obtain ⟨a1, a2⟩ := List.pairwise_cons.mp hl
    obtain ⟨b1, b2⟩ := List.pairwise_cons.mp hm
    have e : x = y := by
      rcases List.mem_cons.mp ((h x).1 (by simp)) with q | q
      · exact q
      · rcases List.mem_cons.mp ((h y).2 (by simp)) with p | p
        · exact p.symm
        · have := b1 x q
          have := a1 y p
          omega
    subst e
    have t : l = m := rise_eq a2 b2 fun c => ⟨fun hc => by
      rcases List.mem_cons.mp ((h c).1 (List.mem_cons_of_mem _ hc)) with q | q
      · have := a1 c hc
        omega
      · exact q, fun hc => by
      rcases List.mem_cons.mp ((h c).2 (List.mem_cons_of_mem _ hc)) with q | q
      · have := b1 c hc
        omega
      · exact q⟩
    rw [t]
theorem sgn_rise (x : Tx) : (sgn x).Pairwise (· < ·) := by
  unfold sgn
  exact List.Pairwise.filter _ List.pairwise_lt_range
theorem mem_sgn {x : Tx} (h : ∀ c ∈ x, c < 128) (c : Nat) : c ∈ sgn x ↔ c ∈ x := by
  unfold sgn
  simp only [List.mem_filter, List.mem_range, List.contains_eq_mem, decide_eq_true_eq]
  exact ⟨fun q => q.2, fun q => ⟨h c q, q⟩⟩

/-- as many unlike ones as there are, all of them among the others -/
theorem nodup_le {α : Type} [DecidableEq α] : ∀ {l : List α}, l.Nodup → ∀ {m : List α}, (∀ y ∈ l, y ∈ m) → l.length ≤ m.length
  | [], _, _, _ => Nat.zero_le _
  | x :: l, hn, m, h => by
    obtain ⟨h1, h2⟩ := List.nodup_cons.mp hn
    have := nodup_le h2 (m := m.erase x) fun y hy => by
      have ne : y ≠ x := fun z => h1 (by rw [← z]; exact hy)
      rw [List.mem_erase_of_ne ne]
      exact h y (List.mem_cons_of_mem _ hy)
    rw [List.length_erase_of_mem (h x (by simp))] at this
    have : 0 < m.length := List.length_pos_of_mem (h x (by simp))
    simp only [List.length_cons]
    omega
theorem nodup_sub {α : Type} [DecidableEq α] : ∀ {l m : List α}, l.Nodup → (∀ y ∈ l, y ∈ m) → m.length = l.length → m.Nodup
  | [], m, _, _, e => by
    have : m = [] := List.length_eq_zero_iff.mp e
    rw [this]; exact List.nodup_nil
  | x :: l, m, hn, h, e => by
    obtain ⟨h1, h2⟩ := List.nodup_cons.mp hn
    have hx := h x (by simp)
    have n := nodup_sub h2 (m := m.erase x) (fun y hy => by
      have ne : y ≠ x := fun z => h1 (by rw [← z]; exact hy)
      rw [List.mem_erase_of_ne ne]
      exact h y (List.mem_cons_of_mem _ hy)) (by rw [List.length_erase_of_mem hx, e]; simp)
    have p := List.perm_cons_erase hx
    refine p.nodup_iff.mpr (List.nodup_cons.mpr ⟨fun z => ?_, n⟩)
    have sub : ∀ y ∈ x :: l, y ∈ m.erase x := fun y hy => by
      rcases List.mem_cons.mp hy with q | q
      · rw [q]; exact z
      · have ne : y ≠ x := fun z => h1 (by rw [← z]; exact q)
        rw [List.mem_erase_of_ne ne]
        exact h y (List.mem_cons_of_mem _ q)
    have := nodup_le hn sub
    rw [List.length_erase_of_mem hx, e] at this
    simp at this
    omega
theorem sgn_len (x : Tx) : (sgn x).length ≤ x.length := nodup_le (List.nodup_iff_pairwise_ne.mpr ((sgn_rise x).imp fun h => Nat.ne_of_lt h)) fun y hy => by
  unfold sgn at hy
  simp only [List.mem_filter, List.contains_eq_mem, decide_eq_true_eq] at hy
  exact hy.2
end Q
end

section
set_option Elab.async false
set_option linter.all false
set_option maxRecDepth 100000
/-! Core3: steps of the relation. -/
namespace Q
open PySem PySem.Spec PyProof.Rows

section
variable {X : Fx} {g g' : Gh} {st st' : S} {s s' : Shared} {a : Addr} {u u' : Value} {i j : Nat}

theorem Ns.inj {h : Heap} {a : Addr} {m m' : Str → Option Value} (n : h.Ns a m) (n' : h.Ns a m') : m = m' := by
  obtain ⟨o, es, ep, e, d, _, f⟩ := n
  obtain ⟨o', es', ep', e', d', _, f'⟩ := n'
  rw [e] at e'; cases e'
  rw [d] at d'; cases d'
  funext x
  rw [← f x, ← f' x]
theorem Ns.slots {h h' : Heap} {a : Addr} {m : Str → Option Value} (n : h.Ns a m) (k : ∀ o, h.get? a = some o → ∃ sl, h'.get? a = some { o with slots := sl }) : h'.Ns a m := by
  obtain ⟨o, es, ep, e, r⟩ := n
  obtain ⟨sl, e'⟩ := k o e
  exact ⟨_, es, ep, e', r⟩
theorem Cell.slots {h h' : Heap} {a : Addr} {v : Option Value} (n : h.IsCell a v) (k : ∀ o, h.get? a = some o → ∃ sl, h'.get? a = some { o with slots := sl }) : h'.IsCell a v := by
  obtain ⟨o, e, r⟩ := n
  obtain ⟨sl, e'⟩ := k o e
  exact ⟨_, e', r⟩
theorem Cell.inj {h : Heap} {a : Addr} {v w : Option Value} (n : h.IsCell a v) (n' : h.IsCell a w) : v = w := by
  obtain ⟨o, e, r⟩ := n
  obtain ⟨o', e', r'⟩ := n'
  rw [e] at e'; cases e'
  rw [r] at r'; cases r'; rfl
theorem Lk.inj {x : Str} (p : Lk X s x u) (q : Lk X s x u') : u = u' := by
  obtain ⟨m, n, l⟩ := p
  obtain ⟨m', n', l'⟩ := q
  have e := Ns.inj n n'
  subst e
  rcases l with ⟨k, e⟩ | ⟨k, c, e, z⟩
  · rcases l' with ⟨k', e'⟩ | ⟨k', c', e', z'⟩
    · rw [e] at e'; exact Option.some.inj e'
    · rw [k] at k'; rcases k' with k' | k' <;> cases k'
  · rcases l' with ⟨k', e'⟩ | ⟨k', c', e', z'⟩
    · rw [k'] at k; rcases k with k | k <;> cases k
    · rw [e] at e'; cases e'
      exact Option.some.inj (Cell.inj z z')
theorem At.inj (p : At X s i u) (q : At X s i u') : u = u' := by
  obtain ⟨x, e, _, l⟩ := p
  obtain ⟨x', e', _, l'⟩ := q
  rw [e] at e'; cases e'
  exact l.inj l'
/-- a name's value stays where the frame and the cells stay up to slots -/
theorem At.keep (p : At X s i u) (kl : ∀ o, s.heap.get? X.env.locals = some o → ∃ sl, s'.heap.get? X.env.locals = some { o with slots := sl })
    (kc : ∀ x c, X.env.cells.lookup x = some c → ∀ o, s.heap.get? c = some o → ∃ sl, s'.heap.get? c = some { o with slots := sl }) : At X s' i u := by
  obtain ⟨x, e, v, m, n, l⟩ := p
  refine ⟨x, e, v, m, Ns.slots n kl, ?_⟩
  rcases l with l | ⟨k, c, e1, z⟩
  · exact .inl l
  · exact .inr ⟨k, c, e1, Cell.slots z (kc x c e1)⟩

theorem funs_slots {base h h' : Heap} : ∀ {l : List Env}, h.FunFrames base l → (∀ L ∈ L2.frs l, ∀ o, h.get? L = some o → ∃ sl, h'.get? L = some { o with slots := sl }) → h'.FunFrames base l
  | [], _, _ => True.intro
  | env :: r, f, k => by
    obtain ⟨hk, ⟨L, o, hf, hb, ho, hd⟩, hr⟩ := f
    have mem : L ∈ L2.frs (env :: r) := by
      unfold L2.frs
      rw [List.filterMap_cons, hf]
      exact List.mem_cons_self
    obtain ⟨sl, e⟩ := k L mem o ho
    refine ⟨hk, ⟨L, _, hf, hb, e, hd⟩, funs_slots hr fun L' hL' => k L' ?_⟩
    unfold L2.frs
    rw [List.filterMap_cons, hf]
    exact List.mem_cons_of_mem _ hL'
theorem funs_nobase {base h : Heap} : ∀ {l : List Env}, h.FunFrames base l → ∀ L ∈ L2.frs l, base.get? L = none ∧ ∃ o, h.get? L = some o
  | [], _, L, hL => by cases hL
  | env :: r, f, L, hL => by
    obtain ⟨hk, ⟨L', o, hf, hb, ho, hd⟩, hr⟩ := f
    unfold L2.frs at hL
    rw [List.filterMap_cons, hf] at hL
    rcases List.mem_cons.mp hL with e | hL
    · subst e; exact ⟨hb, o, ho⟩
    · exact funs_nobase hr L hL

theorem SR.locIn (r : SR X g st s) : ∃ o, s.heap.get? X.env.locals = some o := by
  obtain ⟨m, o, _, _, e, _⟩ := r.ns
  exact ⟨o, e⟩
theorem SR.cellIn (r : SR X g st s) {x : Str} {c : Addr} (e : X.env.cells.lookup x = some c) : ∃ o, s.heap.get? c = some o := by
  obtain ⟨v, o, e1, _⟩ := r.cell x c e
  exact ⟨o, e1⟩
theorem SR.frIn (r : SR X g st s) {L : Addr} (h : L ∈ L2.frs X.stack) : ∃ o, s.heap.get? L = some o := (funs_nobase r.funs L h).2
theorem some_ne {α : Type} {x : Option α} (h : ∃ o, x = some o) (n : x = none) : False := by
  obtain ⟨o, e⟩ := h
  rw [n] at e; cases e
/-- a list is no frame, no cell -/
theorem SR.lstFr (r : SR X g st s) {us : List Value} (l : LstAt s.heap a us) (hlo : X.h0.get? a = none) : a ≠ X.env.locals ∧ (∀ x c, X.env.cells.lookup x = some c → c ≠ a) ∧ a ∉ L2.frs X.stack := by
  obtain ⟨_, n, e⟩ := l
  have h1 : a ≠ X.env.locals := fun z => by
    obtain ⟨m, o, es, ep, e1, d, _⟩ := r.ns
    rw [← z, e] at e1; cases e1; cases d
  refine ⟨h1, fun x c hc z => ?_, fun hL => ?_⟩
  · obtain ⟨v, o, e1, d⟩ := r.cell x c hc
    rw [z, e] at e1; cases e1; cases d
  · obtain ⟨m, o, es, ep, e1, d, _⟩ := r.frD a hL
    rw [e] at e1; cases e1; cases d

/-- THE STEP: what a rule or a call does to the state, the slots as they were -/
theorem SR.step {hp' : List AV} (r : SR X g st s) (os : s'.os = s.os) (bare : AllBare s'.gens) (kp : Kp g.mu (L2.frs X.stack) s.heap s'.heap) (fz : ∀ a, g.fz a → g'.fz a)
    (fzNew : ∀ a, g'.fz a → g.fz a ∨ s.heap.get? a = none) (th : ∃ more, g'.th = g.th ++ more ∧ ∀ p ∈ more, Nw s.heap p)
    (tk : ∀ t x, g.tk t = some x → g'.tk t = some x) (toks : s.toks ≤ s'.toks) (gh : GhOk X.gc g' hp' s') :
    SR X g' { st with hp := hp' } s' ∧ FrE X g st s g' { st with hp := hp' } s' := by
  have kl : ∀ o, s.heap.get? X.env.locals = some o → ∃ sl, s'.heap.get? X.env.locals = some { o with slots := sl } := fun o e => kp.slot _ o e r.muL
  have kc : ∀ x c, X.env.cells.lookup x = some c → ∀ o, s.heap.get? c = some o → ∃ sl, s'.heap.get? c = some { o with slots := sl } := fun x c e o q => kp.slot _ o q (r.muC x c e)
  have mono : GMono g g' s.heap s'.heap := ⟨fun b o hf e => kp.keep b o e (fun q => r.gh.thFz b q hf) (fun q => r.fzF b q hf), fz, let ⟨m, e, _⟩ := th; ⟨m, e⟩, tk⟩
  obtain ⟨more, et, hm⟩ := th
  have nmu : ∀ b, (∃ o, s.heap.get? b = some o) → ¬ g.mu b → ¬ g'.mu b := fun b hb n q => let ⟨_, hb⟩ := hb; n (mut_of et hm hb q)
  have nfz : ∀ b, (∃ o, s.heap.get? b = some o) → ¬ g.fz b → ¬ g'.fz b := fun b hb n q => by
    rcases fzNew b q with z | z
    · exact n z
    · exact some_ne hb z
  have back : ∀ {i v o u}, st.get i = some (v, o) → At X s' i u → At X s i u := fun {i v o u} e q => by
    obtain ⟨u0, a0, _⟩ := r.slot i v o e q.vis
    have := (a0.keep kl kc).inj q
    exact this ▸ a0
  have gete : ∀ i, ({ st with hp := hp' } : S).get i = st.get i := fun i => rfl
  refine ⟨⟨r.ok, bare, fun b o e => ?_, fun b o e => let ⟨o1, e1⟩ := r.ent b o e; kp.there b o1 e1, funs_slots r.funs fun L hL o e => kp.slot L o e (r.muF L hL), ?_, fun x c e => ?_, gh, nfz _ r.locIn r.fzL, fun x c e => nfz _ (r.cellIn e) (r.fzC x c e), fun L hL => nfz _ (r.frIn hL) (r.fzF L hL),
    nmu _ r.locIn r.muL, fun x c e => nmu _ (r.cellIn e) (r.muC x c e), fun L hL => nmu _ (r.frIn hL) (r.muF L hL), fun i v o e hv => ?_, fun i j v w u e1 e2 a1 a2 => ?_, r.len, fun L hL => let ⟨m, n⟩ := r.frD L hL; ⟨m, Ns.slots n fun o e => kp.slot L o e (r.muF L hL)⟩⟩, ?_⟩
  · have q := r.base b o e
    refine kp.keep b o q (fun z => ?_) (fun z => ?_)
    · have := r.gh.thB b z
      rw [e] at this; cases this
    · have := (funs_nobase r.funs b z).1
      rw [e] at this; cases this
  · obtain ⟨m, n⟩ := r.ns
    exact ⟨m, Ns.slots n kl⟩
  · obtain ⟨v, z⟩ := r.cell x c e
    exact ⟨v, Cell.slots z (kc x c e)⟩
  · obtain ⟨u, a0, sv⟩ := r.slot i v o e hv
    refine ⟨u, a0.keep kl kc, ?_⟩
    cases o with
    | false => exact Rep.mono mono sv
    | true =>
      obtain ⟨b, xs, us, e1, e2, l, q, nf, nm, hlo⟩ := sv
      obtain ⟨n1, n2, n3⟩ := r.lstFr l hlo
      have hb : ∃ o, s.heap.get? b = some o := by obtain ⟨_, n, z⟩ := l; exact ⟨_, z⟩
      exact ⟨b, xs, us, e1, e2, l.mono fun o z => kp.keep b o z nm n3, RepL.mono mono q, nfz b hb nf, nmu b hb nm, hlo⟩
  · exact r.dist i j v w u e1 e2 (back e1 a1) (back e2 a2)
  · refine ⟨os, kp, fz, fun b e => ?_, ⟨more, et, hm⟩, tk, toks, fun b ⟨i, v, e, q⟩ => ⟨i, v, e, back e q⟩, fun _ => .inl rfl⟩
    rcases fzNew b e with z | z
    · exact .inl z
    · exact .inr (.inl z)

/-- all objects kept, tokens given out -/
theorem GhOk.ext {gc : GC} {hp : List AV} {k : Nat} {h' : Heap} (o : GhOk gc g hp s) (kp : ∀ b o, s.heap.get? b = some o → h'.get? b = some o) (hk : s.toks ≤ k) : GhOk gc g hp { s with heap := h', toks := k } where
  fzIn a f := let ⟨ob, e⟩ := o.fzIn a f; ⟨ob, kp a ob e⟩
  thNd := o.thNd
  thFz := o.thFz
  thIn a f := let ⟨ob, e⟩ := o.thIn a f; ⟨ob, kp a ob e⟩
  thB := o.thB
  len := o.len
  cell i p v e1 e2 := by
    have q := o.cell i p v e1 e2
    cases v with
    | lst xs =>
      obtain ⟨e, us, l, r⟩ := q
      exact ⟨e, us, l.mono fun ob z => kp _ ob z, RepL.mono ⟨fun b ob _ z => kp b ob z, fun _ z => z, ⟨[], by simp⟩, fun _ _ z => z⟩ r⟩
    | non => trivial
    | _ => exact q
  tk0 := o.tk0
  tkLt t x e := Nat.lt_of_lt_of_le (o.tkLt t x e) hk
  tkPos := Nat.lt_of_lt_of_le o.tkPos hk
theorem SR.ext {k : Nat} {h' : Heap} (r : SR X g st s) (kp : ∀ b o, s.heap.get? b = some o → h'.get? b = some o) (hk : s.toks ≤ k) :
    SR X g st { s with heap := h', toks := k } ∧ FrE X g st s g st { s with heap := h', toks := k } :=
  r.step (hp' := st.hp) rfl r.bare (Kp.of kp) (fun _ e => e) (fun _ e => .inl e) ⟨[], by simp, fun _ h => nomatch h⟩ (fun _ _ e => e) hk (r.gh.ext kp hk)
theorem SR.tok {k : Nat} (r : SR X g st s) (hk : s.toks ≤ k) : SR X g st { s with toks := k } ∧ FrE X g st s g st { s with toks := k } :=
  r.ext (fun _ _ e => e) hk

/-- a new text with the next token -/
def Gh.addTk (g : Gh) (t : Nat) (x : Tx) : Gh := { g with tk := fun k => if k = t then some x else g.tk k }
theorem addTk_mu {t : Nat} {x : Tx} : (g.addTk t x).mu a ↔ g.mu a := Iff.rfl
theorem SR.newStr {x : Tx} (r : SR X g st s) (hx : TxOk x) :
    SR X (g.addTk s.toks x) st { s with toks := s.toks + 1 } ∧ FrE X g st s (g.addTk s.toks x) st { s with toks := s.toks + 1 } ∧ Rep X.gc (g.addTk s.toks x) s.heap (.str x) (.str (tx x) s.toks) := by
  have nk : g.tk s.toks = none := by
    cases e : g.tk s.toks with
    | none => rfl
    | some y => exact absurd (r.gh.tkLt _ _ e) (Nat.lt_irrefl _)
  have up : ∀ k y, g.tk k = some y → (g.addTk s.toks x).tk k = some y := fun k y e => by
    show (if k = s.toks then some x else g.tk k) = some y
    by_cases z : k = s.toks
    · rw [z, nk] at e; cases e
    · rw [if_neg z]; exact e
  have mono : GMono g (g.addTk s.toks x) s.heap s.heap := ⟨fun _ _ _ e => e, fun _ e => e, ⟨[], by simp [Gh.addTk]⟩, up⟩
  have gh : GhOk X.gc (g.addTk s.toks x) st.hp { s with toks := s.toks + 1 } := by
    refine ⟨r.gh.fzIn, r.gh.thNd, r.gh.thFz, r.gh.thIn, r.gh.thB, r.gh.len, fun i p v e1 e2 => ?_, ?_, fun t y e => ?_, Nat.succ_pos _⟩
    · have q := r.gh.cell i p v e1 e2
      cases v with
      | lst xs =>
        obtain ⟨e, us, l, rr⟩ := q
        exact ⟨e, us, l, RepL.mono mono rr⟩
      | non => trivial
      | _ => exact q
    · show (if 0 = s.toks then some x else g.tk 0) = none
      rw [if_neg (Nat.ne_of_lt r.gh.tkPos)]; exact r.gh.tk0
    · have e : (if t = s.toks then some x else g.tk t) = some y := e
      show t < s.toks + 1
      by_cases z : t = s.toks
      · omega
      · rw [if_neg z] at e
        have := r.gh.tkLt t y e
        omega
  obtain ⟨r', f'⟩ := r.step (g' := g.addTk s.toks x) (hp' := st.hp) (s' := { s with toks := s.toks + 1 }) rfl r.bare Kp.refl (fun _ e => e) (fun _ e => .inl e) ⟨[], by simp [Gh.addTk], fun _ h => nomatch h⟩ up (Nat.le_succ _) gh
  refine ⟨r', f', ?_⟩
  simp only [Rep]
  exact ⟨s.toks, rfl, by show (if s.toks = s.toks then some x else _) = _; rw [if_pos rfl], hx⟩

/-! ### values in hand -/
/-- a value as an expression hands it out; n: what is above is new -/
def RepT (X : Fx) (n : Heap) (g : Gh) (st : S) (s : Shared) : Md → AV → Value → Prop
  | .fz, v, u => Rep X.gc g s.heap v u
  | .fr, v, u => ∃ a xs us, u = .ref a ∧ v = .lst xs ∧ LstAt s.heap a us ∧ RepL X.gc g s.heap xs us ∧ ¬ g.fz a ∧ ¬ g.mu a ∧ X.h0.get? a = none ∧ n.get? a = none ∧ ¬ OwnA X st s a
  | .bo i, v, u => st.get i = some (v, true) ∧ At X s i u
/-- a value that may be looked at -/
def RepB (X : Fx) (g : Gh) (h : Heap) : AV → Value → Prop
  | .lst xs, u => ∃ a us, u = .ref a ∧ LstAt h a us ∧ RepL X.gc g h xs us ∧ ¬ g.mu a ∧ a ∉ L2.frs X.stack
  | v, u => Rep X.gc g h v u
def RepBL (X : Fx) (g : Gh) (h : Heap) : List AV → List Value → Prop
  | [], us => us = []
  | x :: r, us => ∃ u q, us = u :: q ∧ RepB X g h x u ∧ RepBL X g h r q

theorem RepB.of {v : AV} (r : SR X g st s) (q : Rep X.gc g s.heap v u) : RepB X g s.heap v u := by
  cases v with
  | lst xs =>
    simp only [Rep] at q
    obtain ⟨a, us, e, f, l, q⟩ := q
    exact ⟨a, us, e, l, q, fun z => r.gh.thFz a z f, fun z => r.fzF a z f⟩
  | _ => exact q
theorem RepT.look {n : Heap} {md : Md} {v : AV} (r : SR X g st s) (q : RepT X n g st s md v u) : RepB X g s.heap v u := by
  cases md with
  | fz => exact RepB.of r q
  | fr =>
    obtain ⟨a, xs, us, rfl, rfl, l, q, nf, nm, hlo, _⟩ := q
    exact ⟨a, us, rfl, l, q, nm, (r.lstFr l hlo).2.2⟩
  | bo i =>
    obtain ⟨e, a0⟩ := q
    obtain ⟨u0, a1, b, xs, us, rfl, rfl, l, q, nf, nm, hlo⟩ := r.slot i _ _ e a0.vis
    have := a1.inj a0
    subst this
    exact ⟨b, us, rfl, l, q, nm, (r.lstFr l hlo).2.2⟩
theorem RepB.keep {v : AV} (r : SR X g st s) (f : FrE X g st s g' st' s') (q : RepB X g s.heap v u) : RepB X g' s'.heap v u := by
  have m := f.mono r
  cases v with
  | lst xs =>
    obtain ⟨a, us, e, l, q, nm, nf⟩ := q
    obtain ⟨ob, ha⟩ : ∃ o, s.heap.get? a = some o := by obtain ⟨_, n, z⟩ := l; exact ⟨_, z⟩
    obtain ⟨more, et, hm⟩ := f.th
    exact ⟨a, us, e, l.mono fun o z => f.kp.keep a o z nm nf, RepL.mono m q, fun z => nm (mut_of et hm ha z), nf⟩
  | _ => exact Rep.mono m q
theorem RepBL.keep (r : SR X g st s) (f : FrE X g st s g' st' s') : ∀ {vs : List AV} {us : List Value}, RepBL X g s.heap vs us → RepBL X g' s'.heap vs us
  | [], _, q => q
  | _ :: _, _, ⟨u, q, e, h1, h2⟩ => ⟨u, q, e, h1.keep r f, RepBL.keep r f h2⟩

/-! ### slots -/
theorem get_put (st : S) (i j : Nat) (v : AV) (o : Bool) : (st.put i v o).get j = if j = i ∧ i < st.sl.length then some (v, o) else st.get j := by
  unfold S.get S.put
  by_cases h : j = i
  · subst h
    by_cases hl : j < st.sl.length
    · rw [if_pos ⟨rfl, hl⟩]
      show ((st.sl.set j (some (v, o)))[j]?).getD none = _
      rw [List.getElem?_set_self hl]; rfl
    · rw [if_neg (fun z => hl z.2)]
      show ((st.sl.set j (some (v, o)))[j]?).getD none = _
      rw [List.set_eq_of_length_le (by omega)]
  · rw [if_neg (fun z => h z.1)]
    show ((st.sl.set i (some (v, o)))[j]?).getD none = _
    rw [List.getElem?_set_ne (fun z => h z.symm)]
theorem get_lt {v : AV} {o : Bool} (e : st.get i = some (v, o)) : i < st.sl.length := by
  unfold S.get at e
  by_cases h : i < st.sl.length
  · exact h
  · rw [List.getElem?_eq_none (by omega)] at e; cases e
theorem get_frz (st : S) (i j : Nat) : (st.frz i).get j = if j = i then (st.get j).map fun p => (p.1, false) else st.get j := by
  unfold S.frz
  split
  · rename_i v h
    have hl := get_lt h
    by_cases hj : j = i
    · subst hj
      show (st.put j v false).get j = _
      rw [get_put, if_pos ⟨rfl, hl⟩, if_pos rfl, h]; rfl
    · show (st.put i v false).get j = _
      rw [get_put, if_neg (fun z => hj z.1), if_neg hj]
  · rename_i h
    by_cases hj : j = i
    · subst hj
      rw [if_pos rfl]
      cases e : st.get j with
      | none => rfl
      | some p =>
        obtain ⟨v, o⟩ := p
        cases o with
        | false => rfl
        | true => exact absurd e (h v)
    · rw [if_neg hj]
theorem frz_hp (st : S) (i : Nat) : (st.frz i).hp = st.hp := by unfold S.frz; split <;> rfl
theorem frz_len (st : S) (i : Nat) : (st.frz i).sl.length = st.sl.length := by unfold S.frz; split <;> simp
theorem esc_hp (st : S) (m : Md) : (st.esc m).hp = st.hp := by cases m <;> first | rfl | exact frz_hp st _

def Gh.frz (g : Gh) (a : Addr) : Gh := { g with fz := fun b => g.fz b ∨ b = a }
/-- a list is frozen -/
theorem SR.freeze {xs : List AV} {us : List Value} (r : SR X g st s) (l : LstAt s.heap a us) (q : RepL X.gc g s.heap xs us) (nm : ¬ g.mu a) (hlo : X.h0.get? a = none)
    (len : st'.sl.length = st.sl.length) (hp : st'.hp = st.hp)
    (sl : ∀ i v o, st'.get i = some (v, o) → (st.get i = some (v, o) ∧ (o = true → ¬ At X s i (.ref a))) ∨ (o = false ∧ v = .lst xs ∧ At X s i (.ref a))) :
    SR X (g.frz a) st' s ∧ GMono g (g.frz a) s.heap s.heap := by
  have mono : GMono g (g.frz a) s.heap s.heap := ⟨fun _ _ _ e => e, fun _ e => .inl e, ⟨[], by simp [Gh.frz]⟩, fun _ _ e => e⟩
  obtain ⟨n1, n2, n3⟩ := r.lstFr l hlo
  obtain ⟨ob, eo⟩ : ∃ ob, s.heap.get? a = some ob := let ⟨_, n, e⟩ := l; ⟨_, e⟩
  refine ⟨⟨r.ok, r.bare, r.base, r.ent, r.funs, r.ns, r.cell, ?_, fun z => z.elim r.fzL fun e => n1 e.symm, fun x c e z => z.elim (r.fzC x c e) fun e' => n2 x c e e', fun L hL z => z.elim (r.fzF L hL) fun e => n3 (e ▸ hL),
    r.muL, r.muC, r.muF, fun i v o e hv => ?_, fun i j v w u e1 e2 a1 a2 => ?_, len.trans r.len, r.frD⟩, mono⟩
  · refine ⟨fun b f => f.elim (r.gh.fzIn b) fun e => ⟨ob, e ▸ eo⟩, r.gh.thNd, fun b hb z => z.elim (r.gh.thFz b hb) fun e => nm (e ▸ hb), r.gh.thIn, r.gh.thB, hp ▸ r.gh.len, fun i p v e1 e2 => ?_, r.gh.tk0, r.gh.tkLt, r.gh.tkPos⟩
    have q := r.gh.cell i p v e1 (hp ▸ e2)
    cases v with
    | lst xs =>
      obtain ⟨e, us, l, rr⟩ := q
      exact ⟨e, us, l, RepL.mono mono rr⟩
    | non => trivial
    | _ => exact q
  · rcases sl i v o e with ⟨h, no⟩ | ⟨rfl, rfl, h⟩
    · obtain ⟨u, a0, sv⟩ := r.slot i v o h hv
      refine ⟨u, a0, ?_⟩
      cases o with
      | false => exact Rep.mono mono sv
      | true =>
        obtain ⟨b, ys, ws, e1, e2, l2, q2, nf, nm2, hlo2⟩ := sv
        refine ⟨b, ys, ws, e1, e2, l2, RepL.mono mono q2, fun z => z.elim nf fun e3 => ?_, nm2, hlo2⟩
        subst e3
        exact no rfl (e1 ▸ a0)
    · refine ⟨.ref a, h, ?_⟩
      show Rep X.gc (g.frz a) s.heap (.lst xs) (.ref a)
      simp only [Rep]
      exact ⟨a, us, rfl, .inr rfl, l, RepL.mono mono q⟩
  · have f1 : st.get i = some (v, true) := by
      rcases sl i v true e1 with ⟨h, _⟩ | ⟨z, _⟩
      · exact h
      · cases z
    have f2 : st.get j = some (w, true) := by
      rcases sl j w true e2 with ⟨h, _⟩ | ⟨z, _⟩
      · exact h
      · cases z
    exact r.dist i j v w u f1 f2 a1 a2

/-- a value in hand is given away: it is frozen -/
theorem esc {g1 : Gh} {st1 : S} {s1 : Shared} {md : Md} {v : AV} (f : FrE X g st s g1 st1 s1) (r : SR X g1 st1 s1) (t : RepT X s.heap g1 st1 s1 md v u) :
    ∃ g2, SR X g2 (st1.esc md) s1 ∧ FrE X g st s g2 (st1.esc md) s1 ∧ Rep X.gc g2 s1.heap v u ∧ GMono g1 g2 s1.heap s1.heap := by
  cases md with
  | fz => exact ⟨g1, r, f, t, GMono.refl⟩
  | fr =>
    obtain ⟨a, xs, us, rfl, rfl, l, q, nf, nm, hlo, hn, no⟩ := t
    obtain ⟨r2, m⟩ := r.freeze (st' := st1) l q nm hlo rfl rfl fun i v o e => .inl ⟨e, fun h => by subst h; exact fun z => no ⟨i, v, e, z⟩⟩
    refine ⟨g1.frz a, r2, ⟨f.os, f.kp, fun b e => .inl (f.fz b e), fun b e => ?_, f.th, f.tk, f.toks, f.own, f.sl⟩, ?_, m⟩
    · rcases e with e | e
      · exact f.fzNew b e
      · exact .inr (.inl (e ▸ hn))
    · simp only [Rep]
      exact ⟨a, us, rfl, .inr rfl, l, RepL.mono m q⟩
  | bo i =>
    obtain ⟨e, a0⟩ := t
    obtain ⟨u0, a1, a, xs, us, rfl, rfl, l, q, nf, nm, hlo⟩ := r.slot i _ _ e a0.vis
    have := a1.inj a0
    subst this
    have sub : ∀ j w o, (st1.frz i).get j = some (w, o) → (st1.get j = some (w, o) ∧ (o = true → ¬ At X s1 j (.ref a))) ∨ (o = false ∧ w = .lst xs ∧ At X s1 j (.ref a)) := fun j w o ej => by
      rw [get_frz] at ej
      by_cases hj : j = i
      · subst hj
        rw [if_pos rfl, e] at ej
        cases ej
        exact .inr ⟨rfl, rfl, a1⟩
      · rw [if_neg hj] at ej
        refine .inl ⟨ej, fun h z => ?_⟩
        subst h
        exact hj (r.dist j i w _ _ ej e z a1)
    obtain ⟨r2, m⟩ := r.freeze (st' := st1.frz i) l q nm hlo (frz_len _ _) (frz_hp _ _) sub
    refine ⟨g1.frz a, r2, ⟨f.os, f.kp, fun b e => .inl (f.fz b e), fun b eb => ?_, f.th, f.tk, f.toks, fun b ⟨j, w, ej, aj⟩ => ?_, fun j => ?_⟩, ?_, m⟩
    · rcases eb with eb | eb
      · exact f.fzNew b eb
      · exact .inr (.inr (f.own b ⟨i, _, e, eb ▸ a1⟩))
    · rcases sub j w true ej with ⟨h, _⟩ | ⟨z, _⟩
      · exact f.own b ⟨j, w, h, aj⟩
      · cases z
    · rw [show st1.esc (.bo i) = st1.frz i from rfl, get_frz]
      by_cases hj : j = i
      · subst hj
        rw [if_pos rfl, e]
        rcases f.sl j with k | k | ⟨_, w, k1, k2⟩
        · exact .inr (.inr ⟨a1.vis, _, k ▸ e, rfl⟩)
        · rw [k] at e; cases e
        · rw [k2] at e; cases e
      · rw [if_neg hj]; exact f.sl j
    · simp only [Rep]
      exact ⟨a, us, rfl, .inr rfl, l, RepL.mono m q⟩
end
end Q
end

section
set_option Elab.async false
set_option linter.all false
set_option maxRecDepth 100000
/-! Core4: new objects, operators. -/
namespace Q
open PySem PySem.Spec PyProof.Rows

/-- what is wanted behind an operation whose value is z (b: it is new) -/
def PostV (X : Fx) (g : Gh) (st : S) (s : Shared) (z : AV) (b : Bool) (Q : Value → Shared → Prop) : Prop :=
  ∀ g' s' y, SR X g' st s' → FrE X g st s g' st s' → RepT X s.heap g' st s' (mdOf b) z y → Q y s'

section
variable {X : Fx} {g g' : Gh} {st st' : S} {s s' : Shared} {u w : Value} {Q : Value → Shared → Prop} {E : Value → Shared → Prop}

theorem SR.fresh (r : SR X g st s) : ¬ g.fz s.heap.objs.size ∧ ¬ g.mu s.heap.objs.size ∧ s.heap.get? s.heap.objs.size = none := by
  refine ⟨fun z => ?_, fun z => ?_, Heap.get?_none_of_le (Nat.le_refl _)⟩
  · obtain ⟨o, e⟩ := r.gh.fzIn _ z
    exact Nat.lt_irrefl _ (Heap.lt_size e)
  · obtain ⟨o, e⟩ := r.gh.thIn _ z
    exact Nat.lt_irrefl _ (Heap.lt_size e)
theorem SR.ownIn (r : SR X g st s) {a : Addr} (o : OwnA X st s a) : ∃ ob, s.heap.get? a = some ob := by
  obtain ⟨i, v, e, a0⟩ := o
  obtain ⟨u0, a1, b, xs, us, rfl, _, l, _⟩ := r.slot i v true e a0.vis
  have := a1.inj a0
  cases this
  obtain ⟨_, n, z⟩ := l
  exact ⟨_, z⟩
theorem SR.h0none (r : SR X g st s) {p : Addr} (h : s.heap.get? p = none) : X.h0.get? p = none := by
  cases q : X.h0.get? p with
  | none => rfl
  | some o => exact (some_ne (r.ent p o q) h).elim
theorem lst_new {h : Heap} {us : List Value} (hz : us.length ≤ LIM) : LstAt (h.push { cls := .type "list", data := .seq us.toArray }) h.objs.size us := ⟨hz, 0, Heap.get?_push_size h rfl⟩
theorem tup_new {h : Heap} {us : List Value} (hz : us.length ≤ LIM) : TupAt (h.push { cls := .type "tuple", data := .seq us.toArray }) h.objs.size us := ⟨hz, ⟨_, Heap.get?_push_size h rfl, rfl, 0, rfl⟩, fun o e => by rw [Heap.get?_push_size h rfl] at e; cases e; rfl⟩
/-- a new list, where nothing stood -/
theorem SR.newLstAt {xs : List AV} {us : List Value} {k : Nat} {h' : Heap} {p : Addr} (r : SR X g st s) (kp : ∀ b o, s.heap.get? b = some o → h'.get? b = some o) (hp : s.heap.get? p = none) (l : LstAt h' p us)
    (q : RepL X.gc g s.heap xs us) (hk : s.toks ≤ k) (h : PostV X g st s (.lst xs) true Q) : Q (.ref p) { s with heap := h', toks := k } := by
  obtain ⟨r', f⟩ := r.ext (k := k) (h' := h') kp hk
  refine h g _ _ r' f ?_
  exact ⟨p, xs, us, rfl, rfl, l, RepL.mono (f.mono r) q, fun z => some_ne (r.gh.fzIn _ z) hp, fun z => some_ne (r.gh.thIn _ z) hp, r.h0none hp, hp, fun o => some_ne (r.ownIn (f.own _ o)) hp⟩
theorem SR.newLst {xs : List AV} {us : List Value} {k : Nat} (r : SR X g st s) (q : RepL X.gc g s.heap xs us) (hz : us.length ≤ LIM) (hk : s.toks ≤ k) (h : PostV X g st s (.lst xs) true Q) :
    Q (.ref s.heap.objs.size) { s with heap := s.heap.push { cls := .type "list", data := .seq us.toArray }, toks := k } :=
  r.newLstAt (fun b o e => Heap.get?_push_of_some _ e) (Heap.get?_none_of_le (Nat.le_refl _)) (lst_new hz) q hk h
/-- a new tuple -/
theorem SR.newTupAt {xs : List AV} {us : List Value} {k : Nat} {h' : Heap} {p : Addr} (r : SR X g st s) (kp : ∀ b o, s.heap.get? b = some o → h'.get? b = some o) (hp : s.heap.get? p = none) (l : TupAt h' p us)
    (q : RepL X.gc g s.heap xs us) (hk : s.toks ≤ k) (h : PostV X g st s (.tup xs) false Q) : Q (.ref p) { s with heap := h', toks := k } := by
  obtain ⟨ob, eo⟩ : ∃ ob, h'.get? p = some ob := let ⟨_, ⟨o, e, _⟩, _⟩ := l; ⟨o, e⟩
  have n1 : ¬ g.fz p := fun z => some_ne (r.gh.fzIn _ z) hp
  have n2 : ¬ g.mu p := fun z => some_ne (r.gh.thIn _ z) hp
  have go := r.gh.ext (h' := h') kp hk
  have mono : GMono g (g.frz p) s.heap h' := ⟨fun b o _ e => kp b o e, fun _ e => .inl e, ⟨[], by simp [Gh.frz]⟩, fun _ _ e => e⟩
  have mono2 : GMono g (g.frz p) h' h' := ⟨fun b o _ e => e, fun _ e => .inl e, ⟨[], by simp [Gh.frz]⟩, fun _ _ e => e⟩
  have gh : GhOk X.gc (g.frz p) st.hp { s with heap := h', toks := k } := by
    refine ⟨fun b f => f.elim (go.fzIn b) fun e => by subst e; exact ⟨ob, eo⟩, go.thNd, fun b hb z => z.elim (go.thFz b hb) fun e => n2 (e ▸ hb), go.thIn, go.thB, go.len, fun i p v e1 e2 => ?_, go.tk0, go.tkLt, go.tkPos⟩
    have q := go.cell i p v e1 e2
    cases v with
    | lst xs =>
      obtain ⟨e, ws, l, rr⟩ := q
      exact ⟨e, ws, l, RepL.mono mono2 rr⟩
    | non => trivial
    | _ => exact q
  obtain ⟨r', f⟩ := r.step (g' := g.frz p) (hp' := st.hp) (s' := { s with heap := h', toks := k }) rfl r.bare (Kp.of kp) (fun _ e => .inl e)
    (fun b e => e.elim .inl fun e => .inr (e ▸ hp)) ⟨[], by simp [Gh.frz], fun _ h => nomatch h⟩ (fun _ _ e => e) hk gh
  refine h _ _ _ r' f ?_
  show Rep X.gc (g.frz p) h' (.tup xs) _
  simp only [Rep]
  exact ⟨p, us, rfl, .inr rfl, l, RepL.mono mono q⟩
/-- a new object that nobody changes -/
theorem SR.newFzAt {v : AV} {k : Nat} {h' : Heap} {p : Addr} (r : SR X g st s) (kp : ∀ b o, s.heap.get? b = some o → h'.get? b = some o) (hp : s.heap.get? p = none) (ho : ∃ ob, h'.get? p = some ob)
    (hq : GMono g (g.frz p) s.heap h' → (g.frz p).fz p → Rep X.gc (g.frz p) h' v u) (hk : s.toks ≤ k) (h : PostV X g st s v false Q) : Q u { s with heap := h', toks := k } := by
  obtain ⟨ob, eo⟩ := ho
  have n1 : ¬ g.fz p := fun z => some_ne (r.gh.fzIn _ z) hp
  have n2 : ¬ g.mu p := fun z => some_ne (r.gh.thIn _ z) hp
  have go := r.gh.ext (h' := h') kp hk
  have mono : GMono g (g.frz p) s.heap h' := ⟨fun b o _ e => kp b o e, fun _ e => .inl e, ⟨[], by simp [Gh.frz]⟩, fun _ _ e => e⟩
  have mono2 : GMono g (g.frz p) h' h' := ⟨fun b o _ e => e, fun _ e => .inl e, ⟨[], by simp [Gh.frz]⟩, fun _ _ e => e⟩
  have gh : GhOk X.gc (g.frz p) st.hp { s with heap := h', toks := k } := by
    refine ⟨fun b f => f.elim (go.fzIn b) fun e => by subst e; exact ⟨ob, eo⟩, go.thNd, fun b hb z => z.elim (go.thFz b hb) fun e => n2 (e ▸ hb), go.thIn, go.thB, go.len, fun i p v e1 e2 => ?_, go.tk0, go.tkLt, go.tkPos⟩
    have q := go.cell i p v e1 e2
    cases v with
    | lst xs =>
      obtain ⟨e, ws, l, rr⟩ := q
      exact ⟨e, ws, l, RepL.mono mono2 rr⟩
    | non => trivial
    | _ => exact q
  obtain ⟨r', f⟩ := r.step (g' := g.frz p) (hp' := st.hp) (s' := { s with heap := h', toks := k }) rfl r.bare (Kp.of kp) (fun _ e => .inl e)
    (fun b e => e.elim .inl fun e => .inr (e ▸ hp)) ⟨[], by simp [Gh.frz], fun _ h => nomatch h⟩ (fun _ _ e => e) hk gh
  exact h _ _ _ r' f (hq mono (.inr rfl))
theorem SR.newTup {xs : List AV} {us : List Value} {k : Nat} (r : SR X g st s) (q : RepL X.gc g s.heap xs us) (hz : us.length ≤ LIM) (hk : s.toks ≤ k) (h : PostV X g st s (.tup xs) false Q) :
    Q (.ref s.heap.objs.size) { s with heap := s.heap.push { cls := .type "tuple", data := .seq us.toArray }, toks := k } :=
  r.newTupAt (fun b o e => Heap.get?_push_of_some _ e) (Heap.get?_none_of_le (Nat.le_refl _)) (tup_new hz) q hk h
/-- a value that is there -/
theorem SR.val {v : AV} (r : SR X g st s) (q : Rep X.gc g s.heap v u) (h : PostV X g st s v false Q) : Q u s := h g s u r FrE.refl q
/-- a value without a place, tokens given out -/
theorem SR.tokV {v : AV} {k : Nat} (r : SR X g st s) (hk : s.toks ≤ k) (q : ∀ g h, Rep X.gc g h v u) (h : PostV X g st s v false Q) : Q u { s with toks := k } := by
  obtain ⟨r', f⟩ := r.tok (k := k) hk
  exact h g _ u r' f (q _ _)
theorem rep_int {gc : GC} {h : Heap} {i : Int} {t : Tok} : Rep gc g h (.int i) (.int i t) := by simp only [Rep]; exact ⟨t, rfl⟩
theorem rep_bl {gc : GC} {h : Heap} {b : Bool} : Rep gc g h (.bl b) (.bool b) := by simp only [Rep]
theorem rep_non {gc : GC} {h : Heap} : Rep gc g h .non .none := by simp only [Rep]
theorem SR.int {i : Int} {t : Tok} {k : Nat} (r : SR X g st s) (hk : s.toks ≤ k) (h : PostV X g st s (.int i) false Q) : Q (.int i t) { s with toks := k } := r.tokV hk (fun _ _ => rep_int) h
theorem SR.bl {b : Bool} (r : SR X g st s) (h : PostV X g st s (.bl b) false Q) : Q (.bool b) s := r.val rep_bl h
/-- a new text -/
theorem SR.str {x : Tx} (r : SR X g st s) (hx : TxOk x) (h : PostV X g st s (.str x) false Q) : Q (.str (tx x) s.toks) { s with toks := s.toks + 1 } := by
  obtain ⟨r', f, q⟩ := r.newStr hx
  exact h _ _ _ r' f q

/-! ### texts -/
theorem tx_len (x : Tx) : (tx x).length = x.length := by simp [tx, Str.length]
theorem tx_app (x y : Tx) : tx x ++ tx y = tx (x ++ y) := by
  show Str.mk ((tx x).cps ++ (tx y).cps) = tx (x ++ y)
  simp [tx]
theorem tx_inj {x y : Tx} (h : tx x = tx y) : x = y := by
  have := congrArg (fun s : Str => s.cps.toList) h
  simpa [tx] using this
theorem tx_cps (x : Tx) : (tx x).cps.toList = x := by simp [tx]
theorem TxOk.app {x y : Tx} (a : TxOk x) (b : TxOk y) (h : x.length + y.length ≤ LIM) : TxOk (x ++ y) :=
  ⟨by rw [List.length_append]; exact h, fun c hc => (List.mem_append.mp hc).elim (a.2 c) (b.2 c)⟩
theorem TxOk.rep {x : Tx} (a : TxOk x) (k : Nat) (h : x.length * k ≤ LIM) : TxOk (List.replicate k x).flatten := by
  refine ⟨by rw [lm_len_rep_flat, Nat.mul_comm]; exact h, fun c hc => ?_⟩
  obtain ⟨l, hl, hcl⟩ := List.mem_flatten.mp hc
  rw [(List.mem_replicate.mp hl).2] at hcl
  exact a.2 c hcl
theorem TxOk.sub {x y : Tx} (a : TxOk x) (h : y.length ≤ x.length) (m : ∀ c ∈ y, c ∈ x) : TxOk y := ⟨Nat.le_trans h a.1, fun c hc => a.2 c (m c hc)⟩
theorem fold_cps (x : Tx) : ∀ (k : Nat) (acc : Array Nat), ((List.replicate k (tx x).cps).foldl (· ++ ·) acc).toList = acc.toList ++ (List.replicate k x).flatten
  | 0, acc => by simp
  | k + 1, acc => by
    rw [List.replicate_succ, List.foldl_cons, fold_cps x k, List.replicate_succ, List.flatten_cons]
    simp [tx]

/-! ### operators -/
def opOf : BOp → Operator
  | .add => .Add
  | .sub => .Sub
  | .mul => .Mult
  | .fdiv => .FloorDiv
  | .mod => .Mod
  | .pow => .Pow

theorem mulOk {i j : Int} (h : small64 i ∨ small64 j) : IntMulOk i j := by
  rcases h with h | h
  · exact .of_left (intBits_le_64 h.1 h.2)
  · exact .of_right (intBits_le_64 h.1 h.2)
theorem lst_eq {h : Heap} {a : Addr} {us : List Value} (l : LstAt h a us) : ∃ n, h.get? a = some { cls := .type "list", dict := none, data := .seq us.toArray n, slots := #[] } := l.2

theorem mul_lst {a : Addr} {us : List Value} {k : Int} {t : Tok} {A : Around} {P : Program} {wd : World} (l : LstAt s.heap a us) (h1 : -(2 ^ 63) ≤ k) (h2 : k < 2 ^ 63) (hz : us.length * k.toNat ≤ LIM)
    (h : Q (.ref s.heap.objs.size) { s with heap := s.heap.push { cls := .type "list", data := .seq (List.replicate k.toNat us).flatten.toArray } }) : wpAny (model P wd) A (binaryOp .Mult (.ref a) (.int k t)) Q E s := by
  obtain ⟨n, e⟩ := lst_eq l
  have c1 : ¬ (!Builtin.List.listFitsIndex k) = true := by rw [fitsIndex_both h1 h2]; decide
  have c2 : ¬ us.toArray.size * k.toNat > (2 ^ 63 - 1) / 8 := by
    have : (LIM : Nat) ≤ (2 ^ 63 - 1) / 8 := by decide
    rw [List.size_toArray]; omega
  have c3 : ¬ Builtin.List.listTooLong (us.toArray.size * k.toNat) = true := by
    unfold Builtin.List.listTooLong
    rw [LIM_eq, List.size_toArray, decide_eq_true_eq]; omega
  have fl : ∀ (m : Nat) (acc : List Value), List.foldl (fun x1 x2 => x1 ++ x2) acc.toArray (List.replicate m us.toArray) = (acc ++ (List.replicate m us).flatten).toArray := by
    intro m
    induction m with
    | zero => intro acc; simp
    | succ m ih =>
      intro acc
      rw [List.replicate_succ, List.foldl_cons, List.append_toArray, ih, List.replicate_succ, List.flatten_cons, List.append_assoc]
  have new : List.foldl (fun x1 x2 => x1 ++ x2) #[] (List.replicate (if us.toArray.isEmpty = true then 0 else k.toNat) us.toArray) = (List.replicate k.toNat us).flatten.toArray := by
    rw [show (#[] : Array Value) = ([] : List Value).toArray from rfl, fl, List.nil_append]
    cases us with
    | nil => simp
    | cons x q => simp
  refine wpAny_binaryOp_repeat_ref (T := "list") (U := "int") (by decide) ⟨_, e, rfl⟩ (fun s' => typeIs_int s' k t) noFill_list_mul F.fills_int_mul F.slot_int_rmul repeat_list F.slot_int_index.lookup ?_
  refine call_meets F.slot_int_rmul (typeIs_int s k t) F.entry_int_rmul (F.args_int_rmul_2 _ _) (int___rmul___int_list k t a us.toArray n) ⟨e, rfl, ⟨_, e, rfl⟩, ?_⟩
  refine call_meets F.slot_list_mul ⟨_, e, rfl⟩ F.entry_list_mul (F.args_list_mul_2 _ _) (AutoListH.list___mul___list_int_3 a us.toArray n k t c1 c2 c3) ⟨e, ?_⟩
  rw [new]
  exact h

theorem tmul_one (l : Addr) (items : Array Value) (n : Nat) (dd : Option Addr) (sl : Array (Option Value)) (u : Tok) :
    Meets (Builtin.«tuple.__mul__» ⟨[.ref l, .int 1 u], []⟩) (fun _ R s => s.heap.get? l = some { cls := .type "tuple", dict := dd, data := .seq items n, slots := sl } ∧ R (.ok (.ret (Value.ref l))) s) :=
  .of_wp fun prog w A R s h => by
    obtain ⟨hp, g, d, tk, os⟩ := s
    obtain ⟨hl, h⟩ := h
    have f1 := AutoSeq1.idx_int
    wp_walk using wpAny_loadPart' hl
    exact ⟨_, rfl, h⟩
theorem tmul_zero (l : Addr) (items : Array Value) (n : Nat) (dd : Option Addr) (sl : Array (Option Value)) (u : Tok) (c1 : (items.isEmpty || (0 : Int) == 1) = false) :
    Meets (Builtin.«tuple.__mul__» ⟨[.ref l, .int 0 u], []⟩) (fun _ R s => s.heap.get? l = some { cls := .type "tuple", dict := dd, data := .seq items n, slots := sl } ∧
      R (.ok (.ret (Value.ref s.heap.objs.size))) { s with heap := s.heap.push { cls := .type "tuple", data := .seq #[] } }) :=
  .of_wp fun prog w A R s h => by
    obtain ⟨hp, g, d, tk, os⟩ := s
    obtain ⟨hl, h⟩ := h
    have f1 := AutoSeq1.idx_int
    wp_walk using wpAny_loadPart' hl
    refine wpAny_ite_false (decide_eq_false (by rw [c1]; exact Bool.false_ne_true)) ?_
    wp_walk using wpAny_loadPart' hl
    exact ⟨_, rfl, h⟩
/-- tuple * int -/
theorem mul_tup {xs : List AV} {k : Int} {t : Tok} (r : SR X g st s) (ra : RepB X g s.heap (.tup xs) u) (hx : xs ≠ []) (h0 : 0 ≤ k) (h1 : k < 2 ^ 62) (hz : xs.length * k.toNat ≤ LIM) (h : PostV X g st s (.tup (List.replicate k.toNat xs).flatten) false Q) :
    wpAny (model X.gc.P X.gc.w) X.A (binaryOp .Mult u (.int k t)) Q E s := by
  have ra0 := ra
  simp only [RepB, Rep] at ra
  obtain ⟨a, us, rfl, f, ⟨hl, ⟨⟨cls, dd, data, sl⟩, e, hc, n, hd⟩, hn⟩, q⟩ := ra
  simp only at hc hd
  subst hc hd
  have hlen := q.length
  have hi : us.toArray.isEmpty = false := by
    cases us with
    | nil => cases xs with
      | nil => exact absurd rfl hx
      | cons _ _ => simp at hlen
    | cons _ _ => rfl
  refine wpAny_binaryOp_repeat_ref (T := "tuple") (U := "int") (by decide) ⟨_, e, rfl⟩ (fun s' => typeIs_int s' k t) L2.noFill_tuple_mul F.fills_int_mul F.slot_int_rmul L2.repeat_tuple F.slot_int_index.lookup ?_
  refine call_meets F.slot_int_rmul (typeIs_int s k t) F.entry_int_rmul (F.args_int_rmul_2 _ _) (L2.int_rmul_tuple k t a us.toArray n dd sl) ⟨e, rfl, ⟨_, e, rfl⟩, ?_⟩
  rcases (show k < 1 ∨ 1 ≤ k by omega) with hk | hk
  · have hk : k = 0 := by omega
    subst hk
    refine call_meets F.slot_tuple_mul ⟨_, e, rfl⟩ F.entry_tuple_mul (F.args_tuple_mul_2 _ _) (tmul_zero a us.toArray n dd sl t (by rw [hi]; rfl)) ⟨e, ?_⟩
    exact r.newTup (xs := []) (us := []) RepL.nil (Nat.zero_le _) (Nat.le_refl _) h
  · rcases (show k < 2 ∨ 2 ≤ k by omega) with hk2 | hk2
    · have hk : k = 1 := by omega
      subst hk
      refine call_meets F.slot_tuple_mul ⟨_, e, rfl⟩ F.entry_tuple_mul (F.args_tuple_mul_2 _ _) (tmul_one a us.toArray n dd sl t) ⟨e, ?_⟩
      refine h g s _ r FrE.refl ?_
      rw [show (List.replicate (1 : Int).toNat xs).flatten = xs by simp]
      exact ra0
    · have c0 : (decide (k < -(2 ^ 63)) || decide (k ≥ 2 ^ 63)) = false := by
        rw [decide_eq_false (by omega), decide_eq_false (by omega)]; rfl
      have c1 : (us.toArray.isEmpty || k == 1) = false := by
        rw [hi, Bool.false_or]
        exact beq_eq_false_iff_ne.mpr (by omega)
      have c2 : (decide (k ≤ 0) || us.toArray.isEmpty) = false := by
        rw [hi, Bool.or_false]
        exact decide_eq_false (by omega)
      have hm : ((us.toArray.size : Nat) : Int) * k ≤ (LIM : Nat) := by
        have e1 : ((us.toArray.size : Nat) : Int) * k = ((us.toArray.size * k.toNat : Nat) : Int) := by
          rw [Int.natCast_mul, Int.toNat_of_nonneg h0]
        rw [e1, List.size_toArray, hlen]
        exact_mod_cast hz
      have hl2 : (LIM : Nat) = 16777216 := rfl
      have c4 : Builtin.Tuple.tupleTooMany (((us.toArray.size : Nat) : Int) * k) = false := by
        unfold Builtin.Tuple.tupleTooMany
        rw [LIM_eq]
        exact decide_eq_false (by omega)
      have fl : (List.replicate k.toNat us).flatten.length ≤ LIM := by rw [lm_len_rep_flat, Nat.mul_comm, hlen]; exact hz
      refine call_meets F.slot_tuple_mul ⟨_, e, rfl⟩ F.entry_tuple_mul (F.args_tuple_mul_2 _ _) (L2.tuple_mulW a us.toArray n dd sl k t c0 c1 c2 (by omega) c4 (by rw [L2.size_rep, List.size_toArray, LIM_eq]; exact fl)) ⟨e, ?_⟩
      rw [L2.size_rep]
      exact r.newTup (q.rep _) fl (Nat.le_refl _) h

theorem bop_ok {o : BOp} {a b : AV} {z : AV × Bool} (r : SR X g st s) (ra : RepB X g s.heap a u) (rb : RepB X g s.heap b w) (e : bop o a b = some z) (h : PostV X g st s z.1 z.2 Q) :
    wpAny (model X.gc.P X.gc.w) X.A (binaryOp (opOf o) u w) Q E s := by
  unfold bop at e
  split at e
  case h_1 i j =>
    cases e
    simp only [RepB, Rep] at ra rb
    obtain ⟨t, rfl⟩ := ra
    obtain ⟨t', rfl⟩ := rb
    exact PyProof.Rows.add_int (r.int (Nat.le_succ _) h)
  case h_2 i j =>
    cases e
    simp only [RepB, Rep] at ra rb
    obtain ⟨t, rfl⟩ := ra
    obtain ⟨t', rfl⟩ := rb
    exact PyProof.Rows.sub_int (r.int (Nat.le_succ _) h)
  case h_3 i j =>
    rw [grd_eq] at e
    split at e
    · rename_i hm
      cases e
      simp only [RepB, Rep] at ra rb
      obtain ⟨t, rfl⟩ := ra
      obtain ⟨t', rfl⟩ := rb
      exact PyProof.Rows.mul_int (r.int (Nat.le_succ _) h) (mulOk hm)
    · cases e
  case h_4 i j =>
    rw [grd_eq] at e
    split at e
    · rename_i hm
      cases e
      simp only [RepB, Rep] at ra rb
      obtain ⟨t, rfl⟩ := ra
      obtain ⟨t', rfl⟩ := rb
      exact PyProof.Rows.floordiv_int hm.1 (r.int (Nat.le_succ _) h) (.inl (PyProof.noPylong_small hm.2))
    · cases e
  case h_5 i j =>
    rw [grd_eq] at e
    split at e
    · rename_i hm
      cases e
      simp only [RepB, Rep] at ra rb
      obtain ⟨t, rfl⟩ := ra
      obtain ⟨t', rfl⟩ := rb
      exact mod_int' hm (r.int (Nat.le_succ _) h)
    · cases e
  case h_6 i j =>
    rw [grd_eq] at e
    split at e
    · rename_i hm
      cases e
      simp only [RepB, Rep] at ra rb
      obtain ⟨t, rfl⟩ := ra
      obtain ⟨t', rfl⟩ := rb
      exact pow_int_small hm.1 hm.2.1 hm.2.2 (r.int (Nat.le_succ _) h)
    · cases e
  case h_7 x y =>
    rw [grd_eq] at e
    split at e
    · rename_i hm
      cases e
      simp only [RepB, Rep] at ra rb
      obtain ⟨t, rfl, kt, ox⟩ := ra
      obtain ⟨t', rfl, kt', oy⟩ := rb
      refine PySem.P.add_str ?_
      rw [tx_len, tx_len]
      cases x with
      | nil =>
        rw [if_pos (show ((([] : List Nat).length) == 0) = true from rfl)]
        exact r.val (by simp only [Rep, List.nil_append]; exact ⟨t', rfl, kt', oy⟩) h
      | cons c x =>
        rw [if_neg (by simp)]
        cases y with
        | nil =>
          rw [if_pos (show ((([] : List Nat).length) == 0) = true from rfl)]
          exact r.val (by simp only [Rep, List.append_nil]; exact ⟨t, rfl, kt, ox⟩) h
        | cons d y =>
          rw [if_neg (by simp), tx_app]
          exact ⟨by rw [tx_len, List.length_append, LIM_eq]; exact hm, r.str (ox.app oy hm) h⟩
    · cases e
  case h_8 x y =>
    rw [grd_eq] at e
    split at e
    · rename_i hm
      cases e
      obtain ⟨a, us, rfl, l, q, _⟩ := ra
      obtain ⟨b, ws, rfl, l2, q2, _⟩ := rb
      obtain ⟨n, e1⟩ := lst_eq l
      obtain ⟨n2, e2⟩ := lst_eq l2
      have hl : us.length + ws.length ≤ LIM := by rw [q.length, q2.length]; exact hm
      refine PySem.P.add_list e1 e2 ?_ (by rw [List.size_toArray, List.size_toArray, LIM_eq]; exact hl)
      rw [show us.toArray ++ ws.toArray = (us ++ ws).toArray by simp]
      exact r.newLst (k := s.toks) (q.app q2) (by rw [List.length_append]; exact hl) (Nat.le_refl _) h
    · cases e
  case h_9 x y =>
    rw [grd_eq] at e
    split at e
    · rename_i hm
      cases e
      simp only [RepB, Rep] at ra rb
      obtain ⟨a, us, rfl, fa, l, q⟩ := ra
      obtain ⟨b, ws, rfl, fb, l2, q2⟩ := rb
      have hl : us.length + ws.length ≤ LIM := by rw [q.length, q2.length]; exact hm.2
      have hne : us ≠ [] := fun z => by
        have := q.length
        rw [z] at this
        exact hm.1 (List.eq_nil_of_length_eq_zero this.symm)
      refine HT.cat_tup l.2.1 l2.2.1 hne (fun z => ?_) (fun z => ?_) (by rw [LIM_eq]; exact hl)
      · have hy : y = [] := by
          have := q2.length
          rw [z] at this
          exact List.eq_nil_of_length_eq_zero this.symm
        subst hy
        exact r.val (by simp only [Rep, List.append_nil]; exact ⟨a, us, rfl, fa, l, q⟩) h
      · exact r.newTup (k := s.toks) (q.app q2) (by rw [List.length_append]; exact hl) (Nat.le_refl _) h
    · cases e
  case h_10 x k =>
    rw [grd_eq] at e
    split at e
    · rename_i hm
      cases e
      simp only [RepB, Rep] at ra rb
      obtain ⟨t, rfl, kt, ox⟩ := ra
      obtain ⟨t', rfl⟩ := rb
      obtain ⟨hm1, hm2, hm3⟩ := hm
      refine PySem.P.mul_str ?_ (fun h1 h2 => ?_) (fun h1 h2 => ?_) ?_
      · have e1 : ¬ k < -(2 ^ 63 : Int) := by omega
        have e2 : ¬ k ≥ 2 ^ 63 := by omega
        rw [decide_eq_false e1, decide_eq_false e2]; rfl
      · rw [tx_len]
        have h3 : x.length ≤ LIM := ox.1
        have h4 : (x.length : Int) * k ≤ LIM := by
          have : k = (k.toNat : Int) := by omega
          rw [this]; exact_mod_cast hm1
        have h5 : 0 < k := by omega
        intro hgt
        have h6 : (2 ^ 63 - 1 : Int) < (x.length : Int) * k := by
          have := Int.lt_mul_of_ediv_lt h5 hgt
          exact this
        have hL : LIM = 16777216 := rfl
        omega
      · rw [tx_len]
        show decide (x.length * k.toNat > sizeLine) = false
        rw [LIM_eq]
        exact decide_eq_false (by omega)
      · rw [tx_len]
        by_cases h1 : k < 1
        · rw [if_pos h1]
          have hk : k.toNat = 0 := by omega
          rw [hk] at h
          exact ⟨by decide, r.str (x := []) ⟨Nat.zero_le _, fun c hc => nomatch hc⟩ h⟩
        · rw [if_neg h1]
          by_cases h2 : (k == 1 || x.length == 0) = true
          · rw [if_pos h2]
            refine r.val ?_ h
            have hx : (List.replicate k.toNat x).flatten = x := by
              rcases Bool.or_eq_true _ _ |>.mp h2 with h3 | h3
              · have h3 : k = 1 := by simpa using h3
                rw [h3]; simp
              · have h3 : x = [] := List.eq_nil_of_length_eq_zero (by simpa using h3)
                rw [h3]; simp
            rw [hx]
            simp only [Rep]
            exact ⟨t, rfl, kt, ox⟩
          · rw [if_neg h2]
            have hx : (⟨(List.replicate k.toNat (tx x).cps).foldl (· ++ ·) #[]⟩ : Str) = tx (List.replicate k.toNat x).flatten := by
              have := fold_cps x k.toNat #[]
              show Str.mk _ = Str.mk _
              congr 1
              apply Array.toList_inj.mp
              rw [this]; simp
            rw [hx]
            exact ⟨by rw [tx_len, LIM_eq, lm_len_rep_flat, Nat.mul_comm]; exact hm1, r.str (ox.rep _ hm1) h⟩
    · cases e
  case h_11 x k =>
    rw [grd_eq] at e
    split at e
    · rename_i hm
      cases e
      obtain ⟨a, us, rfl, l, q, _⟩ := ra
      simp only [RepB, Rep] at rb
      obtain ⟨t', rfl⟩ := rb
      have hz : us.length * k.toNat ≤ LIM := by rw [q.length]; exact hm.1
      exact mul_lst l hm.2.1 hm.2.2 hz (r.newLst (k := s.toks) (q.rep _) (by rw [lm_len_rep_flat, Nat.mul_comm]; exact hz) (Nat.le_refl _) h)
    · cases e
  case h_12 x k =>
    rw [grd_eq] at e
    split at e
    · rename_i hm
      cases e
      simp only [RepB, Rep] at rb
      obtain ⟨t', rfl⟩ := rb
      exact mul_tup r ra hm.1 hm.2.1 hm.2.2.1 hm.2.2.2 h
    · cases e
  case h_13 => cases e
end
end Q
end

section
set_option Elab.async false
set_option linter.all false
set_option maxRecDepth 100000
/-! Core5: comparisons. -/
namespace Q
open PySem PySem.Spec PyProof.Rows

mutual
def toD : AV → PyData
  | .int i => .int i
  | .str s => .str (tx s)
  | .tup xs => .tuple (toDL xs)
  | .lst xs => .list (toDL xs)
  | _ => .none
def toDL : List AV → List PyData
  | [] => []
  | x :: r => toD x :: toDL r
end

mutual
theorem plainN_up : ∀ {n : Nat} {v : AV}, plainN n v = true → plainN (n + 1) v = true
  | n, .non, _ => by simp [plainN]
  | n, .int _, _ => by simp [plainN]
  | n, .str _, _ => by simp [plainN]
  | n + 1, .tup xs, p => by
    simp only [plainN] at p ⊢
    exact plainLN_up p
  | n + 1, .lst xs, p => by
    simp only [plainN] at p ⊢
    exact plainLN_up p
  | 0, .tup xs, p => by simp [plainN] at p
  | 0, .lst xs, p => by simp [plainN] at p
  | n, .bl b, p => by cases n <;> simp [plainN] at p
  | n, .ref i, p => by cases n <;> simp [plainN] at p
  | n, .ins _ _ _, p => by cases n <;> simp [plainN] at p
  | n, .dct _ _, p => by cases n <;> simp [plainN] at p
  | n, .ty _, p => by cases n <;> simp [plainN] at p
  | n, .fn _, p => by cases n <;> simp [plainN] at p
  | n, .scr _, p => by cases n <;> simp [plainN] at p
theorem plainLN_up : ∀ {n : Nat} {vs : List AV}, plainLN n vs = true → plainLN (n + 1) vs = true
  | n, [], _ => by simp [plainLN]
  | n, v :: vs, p => by
    simp only [plainLN, Bool.and_eq_true] at p ⊢
    exact ⟨plainN_up p.1, plainLN_up p.2⟩
end

section
variable {gc : GC} {g : Gh} {h : Heap}
theorem strOk_of {s : Tx} (o : TxOk s) : PyData.strOk (tx s) = true := by
  unfold PyData.strOk tx
  simp only [List.all_toArray, List.all_eq_true, decide_eq_true_eq]
  exact o.2
mutual
theorem reads_of : ∀ (n : Nat) (v : AV) (u : Value), plainN n v = true → Rep gc g h v u → (∃ as, Reads h u (toD v) as) ∧ (toD v).canLay0 = true ∧ (toD v).depth ≤ n
  | n, .non, u, _, r => by
    simp only [Rep] at r
    subst r
    exact ⟨⟨_, Reads.none⟩, rfl, Nat.zero_le _⟩
  | n, .int i, u, _, r => by
    simp only [Rep] at r
    obtain ⟨t, rfl⟩ := r
    exact ⟨⟨_, Reads.int i t⟩, rfl, Nat.zero_le _⟩
  | n, .str s, u, _, r => by
    simp only [Rep] at r
    obtain ⟨t, rfl, _, o⟩ := r
    exact ⟨⟨_, Reads.str _ t⟩, strOk_of o, Nat.zero_le _⟩
  | n + 1, .tup xs, u, p, r => by
    simp only [Rep] at r
    obtain ⟨a, us, rfl, _, ⟨_, ⟨o, e, hc, m, hd⟩, _⟩, q⟩ := r
    obtain ⟨⟨as, h1⟩, h2, h3⟩ := readsL_of n xs us (by simpa only [plainN] using p) q
    refine ⟨⟨_, Reads.tuple e hc hd (by simpa using h1)⟩, h2, ?_⟩
    show PyData.depthAll (toDL xs) + 1 ≤ n + 1
    omega
  | n + 1, .lst xs, u, p, r => by
    simp only [Rep] at r
    obtain ⟨a, us, rfl, _, ⟨_, m, e⟩, q⟩ := r
    obtain ⟨⟨as, h1⟩, h2, h3⟩ := readsL_of n xs us (by simpa only [plainN] using p) q
    refine ⟨⟨_, Reads.list e rfl rfl (by simpa using h1)⟩, h2, ?_⟩
    show PyData.depthAll (toDL xs) + 1 ≤ n + 1
    omega
  | 0, .tup xs, _, p, _ => by simp [plainN] at p
  | 0, .lst xs, _, p, _ => by simp [plainN] at p
  | n, .bl b, _, p, _ => by cases n <;> simp [plainN] at p
  | n, .ref i, _, p, _ => by cases n <;> simp [plainN] at p
  | n, .ins _ _ _, _, p, _ => by cases n <;> simp [plainN] at p
  | n, .dct _ _, _, p, _ => by cases n <;> simp [plainN] at p
  | n, .ty _, _, p, _ => by cases n <;> simp [plainN] at p
  | n, .fn _, _, p, _ => by cases n <;> simp [plainN] at p
  | n, .scr _, _, p, _ => by cases n <;> simp [plainN] at p
theorem readsL_of : ∀ (n : Nat) (vs : List AV) (us : List Value), plainLN n vs = true → RepL gc g h vs us → (∃ as, ReadsAll h us (toDL vs) as) ∧ PyData.canLayAll0 (toDL vs) = true ∧ PyData.depthAll (toDL vs) ≤ n
  | n, [], us, _, r => by
    have e : us = [] := by simpa only [RepL] using r
    subst e
    exact ⟨⟨_, ReadsAll.nil⟩, rfl, Nat.zero_le _⟩
  | n, v :: vs, us, p, r => by
    simp only [RepL] at r
    obtain ⟨u, q, rfl, r1, r2⟩ := r
    simp only [plainLN, Bool.and_eq_true] at p
    obtain ⟨⟨as, h1⟩, h2, h3⟩ := reads_of n v u p.1 r1
    obtain ⟨⟨bs, k1⟩, k2, k3⟩ := readsL_of n vs q p.2 r2
    refine ⟨⟨_, ReadsAll.cons h1 k1⟩, ?_, ?_⟩
    · show (PyData.canLay0 (toD v) && PyData.canLayAll0 (toDL vs)) = true
      rw [h2, k2]; rfl
    · show max (PyData.depth (toD v)) (PyData.depthAll (toDL vs)) ≤ n
      exact Nat.max_le.mpr ⟨h3, k3⟩
end
mutual
theorem eqv_iff : ∀ (n : Nat) (v w : AV), plainN n v = true → plainN n w = true → (PyData.eqv (toD v) (toD w) = true ↔ v = w)
  | n, .non, w, _, q => by cases w <;> cases n <;> simp_all [plainN, toD, PyData.eqv]
  | n, .int i, w, _, q => by cases w <;> cases n <;> simp_all [plainN, toD, PyData.eqv]
  | n, .str s, w, _, q => by
    cases w <;> cases n <;> simp_all [plainN, toD, PyData.eqv]
    all_goals exact ⟨fun e => tx_inj e, fun e => by rw [e]⟩
  | n + 1, .tup xs, w, p, q => by
    cases w <;> simp_all [plainN, toD, PyData.eqv]
    exact eqvL_iff n xs _ p q
  | n + 1, .lst xs, w, p, q => by
    cases w <;> simp_all [plainN, toD, PyData.eqv]
    exact eqvL_iff n xs _ p q
  | 0, .tup xs, _, p, _ => by simp [plainN] at p
  | 0, .lst xs, _, p, _ => by simp [plainN] at p
  | n, .bl b, _, p, _ => by cases n <;> simp [plainN] at p
  | n, .ref i, _, p, _ => by cases n <;> simp [plainN] at p
  | n, .ins _ _ _, _, p, _ => by cases n <;> simp [plainN] at p
  | n, .dct _ _, _, p, _ => by cases n <;> simp [plainN] at p
  | n, .ty _, _, p, _ => by cases n <;> simp [plainN] at p
  | n, .fn _, _, p, _ => by cases n <;> simp [plainN] at p
  | n, .scr _, _, p, _ => by cases n <;> simp [plainN] at p
theorem eqvL_iff : ∀ (n : Nat) (vs ws : List AV), plainLN n vs = true → plainLN n ws = true → (PyData.eqvAll (toDL vs) (toDL ws) = true ↔ vs = ws)
  | n, [], ws, _, _ => by cases ws <;> simp [toDL, PyData.eqvAll]
  | n, v :: vs, ws, p, q => by
    cases ws with
    | nil => simp [toDL, PyData.eqvAll]
    | cons w ws =>
      simp only [plainLN, Bool.and_eq_true] at p q
      simp only [toDL, PyData.eqvAll, Bool.and_eq_true, eqv_iff n v w p.1 q.1, eqvL_iff n vs ws p.2 q.2, List.cons.injEq]
end
mutual
theorem rep_inj : ∀ (n : Nat) (v w : AV) (u : Value), plainN n v = true → plainN n w = true → Rep gc g h v u → Rep gc g h w u → v = w
  | n, .non, w, u, _, q, r, r' => by
    cases w <;> cases n <;> simp_all [plainN, Rep]
  | n, .int i, w, u, _, q, r, r' => by
    simp only [Rep] at r
    obtain ⟨t, rfl⟩ := r
    cases w <;> cases n <;> simp_all [plainN, Rep]
  | n, .str s, w, u, _, q, r, r' => by
    simp only [Rep] at r
    obtain ⟨t, rfl, _, _⟩ := r
    cases w <;> cases n <;> simp_all [plainN, Rep]
    all_goals
      obtain ⟨t', ⟨e, _⟩, _⟩ := r'
      exact tx_inj e
  | n + 1, .tup xs, w, u, p, q, r, r' => by
    simp only [Rep] at r
    obtain ⟨a, us, rfl, _, ⟨_, ⟨o, e, hc, m, hd⟩, _⟩, r⟩ := r
    cases w with
    | tup ys =>
      simp only [Rep] at r'
      obtain ⟨b, ws, eb, _, ⟨_, ⟨o', e', hc', m', hd'⟩, _⟩, r'⟩ := r'
      cases eb
      rw [e] at e'; cases e'
      rw [hd] at hd'
      injection hd' with hd' _
      have hw : us = ws := by simpa using congrArg Array.toList hd'
      subst hw
      rw [repL_inj n xs ys us (by simpa only [plainN] using p) (by simpa only [plainN] using q) r r']
    | lst ys =>
      simp only [Rep] at r'
      obtain ⟨b, ws, eb, _, ⟨_, m', e'⟩, r'⟩ := r'
      cases eb
      rw [e] at e'; cases e'
      exact absurd (show Value.type "list" = .type "tuple" from hc) (by decide +kernel)
    | _ => simp_all [plainN, Rep]
  | n + 1, .lst xs, w, u, p, q, r, r' => by
    simp only [Rep] at r
    obtain ⟨a, us, rfl, _, ⟨_, m, e⟩, r⟩ := r
    cases w with
    | lst ys =>
      simp only [Rep] at r'
      obtain ⟨b, ws, eb, _, ⟨_, m', e'⟩, r'⟩ := r'
      cases eb
      rw [e] at e'
      have hw : us = ws := by
        have := Option.some.inj e'
        injection this with _ _ hd _
        injection hd with hd _
        simpa using congrArg Array.toList hd
      subst hw
      rw [repL_inj n xs ys us (by simpa only [plainN] using p) (by simpa only [plainN] using q) r r']
    | tup ys =>
      simp only [Rep] at r'
      obtain ⟨b, ws, eb, _, ⟨_, ⟨o', e', hc', m', hd'⟩, _⟩, r'⟩ := r'
      cases eb
      rw [e] at e'; cases e'
      exact absurd (show Value.type "list" = .type "tuple" from hc') (by decide +kernel)
    | _ => simp_all [plainN, Rep]
  | 0, .tup xs, _, _, p, _, _, _ => by simp [plainN] at p
  | 0, .lst xs, _, _, p, _, _, _ => by simp [plainN] at p
  | n, .bl b, _, _, p, _, _, _ => by cases n <;> simp [plainN] at p
  | n, .ref i, _, _, p, _, _, _ => by cases n <;> simp [plainN] at p
  | n, .ins _ _ _, _, _, p, _, _, _ => by cases n <;> simp [plainN] at p
  | n, .dct _ _, _, _, p, _, _, _ => by cases n <;> simp [plainN] at p
  | n, .ty _, _, _, p, _, _, _ => by cases n <;> simp [plainN] at p
  | n, .fn _, _, _, p, _, _, _ => by cases n <;> simp [plainN] at p
  | n, .scr _, _, _, p, _, _, _ => by cases n <;> simp [plainN] at p
theorem repL_inj : ∀ (n : Nat) (vs ws : List AV) (us : List Value), plainLN n vs = true → plainLN n ws = true → RepL gc g h vs us → RepL gc g h ws us → vs = ws
  | n, [], ws, us, _, _, r, r' => by
    have e : us = [] := by simpa only [RepL] using r
    subst e
    cases ws with
    | nil => rfl
    | cons w ws => simp [RepL] at r'
  | n, v :: vs, ws, us, p, q, r, r' => by
    simp only [RepL] at r
    obtain ⟨u, us', rfl, r1, r2⟩ := r
    cases ws with
    | nil => simp [RepL] at r'
    | cons w ws =>
      simp only [RepL] at r'
      obtain ⟨u', us'', e, k1, k2⟩ := r'
      cases e
      simp only [plainLN, Bool.and_eq_true] at p q
      rw [rep_inj n v w u p.1 q.1 r1 k1, repL_inj n vs ws us' p.2 q.2 r2 k2]
end
end

def cmpOf : COp → CmpOp
  | .lt => .Lt
  | .le => .LtE
  | .gt => .Gt
  | .ge => .GtE
  | .eq => .Eq
  | .ne => .NotEq
  | .is_ => .Is
  | .isnot => .IsNot
  | .isin => .In
  | .notin => .NotIn

/-! ### texts within texts -/
theorem sub_iff (x y : Tx) : (∃ i, i + y.length ≤ x.length ∧ (x.drop i).take y.length = y) ↔ y <:+: x := by
  constructor
  · rintro ⟨i, _, e⟩
    refine ⟨x.take i, (x.drop i).drop y.length, ?_⟩
    have : y ++ (x.drop i).drop y.length = x.drop i := by
      have h := List.take_append_drop y.length (x.drop i)
      rwa [e] at h
    rw [List.append_assoc, this, List.take_append_drop]
  · rintro ⟨a, b, rfl⟩
    refine ⟨a.length, by simp only [List.length_append]; omega, ?_⟩
    rw [List.append_assoc, List.drop_left, List.take_left]
theorem found_inf (x y : Tx) : (!(Builtin.Str.occurrences (tx x) (tx y) 0 (tx x).length 1).isEmpty) = decide (y <:+: x) := by
  rw [Bool.eq_iff_iff, PySem.StrLaws.found_iff, decide_eq_true_eq, ← sub_iff]
  constructor
  · rintro ⟨i, h1, h2⟩
    rw [PySem.StrLaws.subAt_eq, tx_cps, tx_cps, tx_len, beq_iff_eq] at h2
    rw [tx_len, tx_len] at h1
    exact ⟨i, h1, h2⟩
  · rintro ⟨i, h1, h2⟩
    refine ⟨i, by rw [tx_len, tx_len]; exact h1, ?_⟩
    rw [PySem.StrLaws.subAt_eq, tx_cps, tx_cps, tx_len, beq_iff_eq]
    exact h2

section
variable {X : Fx} {g g' : Gh} {st st' : S} {s s' : Shared} {u w : Value} {Q : Value → Shared → Prop} {E : Value → Shared → Prop}
theorem readsB {v : AV} (r : RepB X g s.heap v u) (p : plain v = true) : (∃ as, Reads s.heap u (toD v) as) ∧ SeqAt.shaped (toD v) = true := by
  have main : (∃ as, Reads s.heap u (toD v) as) ∧ (toD v).canLay0 = true ∧ (toD v).depth ≤ 40 := by
    cases v with
    | lst xs =>
      obtain ⟨a, us, rfl, ⟨_, m, e⟩, q, _⟩ := r
      obtain ⟨⟨as, h1⟩, h2, h3⟩ := readsL_of 39 xs us (by simpa only [plain, plainN] using p) q
      refine ⟨⟨_, Reads.list e rfl rfl (by simpa using h1)⟩, h2, ?_⟩
      show PyData.depthAll (toDL xs) + 1 ≤ 40
      omega
    | _ => exact reads_of (gc := X.gc) (g := g) 40 _ u p r
  obtain ⟨h1, h2, h3⟩ := main
  refine ⟨h1, ?_⟩
  unfold SeqAt.shaped
  rw [h2, decide_eq_true (by omega)]; rfl
theorem eqv_dec {v w : AV} (p : plain v = true) (q : plain w = true) (inst : Decidable (v = w)) : PyData.eqv (toD v) (toD w) = @decide (v = w) inst := by
  rw [Bool.eq_iff_iff, eqv_iff 40 v w p q, decide_eq_true_eq]
theorem eqA_cases {v w : AV} {z : Bool} (e : eqA v w = some z) : (∃ x y, v = .bl x ∧ w = .bl y ∧ z = (x == y)) ∨ (plain v = true ∧ plain w = true ∧ z = PyData.eqv (toD v) (toD w)) := by
  unfold eqA at e
  split at e
  · cases e; exact .inl ⟨_, _, rfl, rfl, rfl⟩
  · split at e
    · rename_i h
      cases e
      exact .inr ⟨h.1, h.2, (eqv_dec h.1 h.2 _).symm⟩
    · cases e
theorem eq_ok {a b : AV} {z : Bool} (r : SR X g st s) (ra : RepB X g s.heap a u) (rb : RepB X g s.heap b w) (e : eqA a b = some z) (h : Q (.bool z) s) : wpAny (model X.gc.P X.gc.w) X.A (compareOp .Eq u w) Q E s := by
  rcases eqA_cases e with ⟨x, y, rfl, rfl, rfl⟩ | ⟨p, q, rfl⟩
  · simp only [RepB, Rep] at ra rb
    subst ra rb
    exact eq_bool h
  · obtain ⟨⟨as, r1⟩, s1⟩ := readsB ra p
    obtain ⟨⟨bs, r2⟩, s2⟩ := readsB rb q
    exact SeqAt.compareEq_shaped r1 r2 s1 s2 (by have := r.ok.un; omega) h
theorem ne_ok {a b : AV} {z : Bool} (r : SR X g st s) (ra : RepB X g s.heap a u) (rb : RepB X g s.heap b w) (e : eqA a b = some z) (h : Q (.bool (!z)) s) : wpAny (model X.gc.P X.gc.w) X.A (compareOp .NotEq u w) Q E s := by
  rcases eqA_cases e with ⟨x, y, rfl, rfl, rfl⟩ | ⟨p, q, rfl⟩
  · simp only [RepB, Rep] at ra rb
    subst ra rb
    exact ne_bool h
  · obtain ⟨⟨as, r1⟩, s1⟩ := readsB ra p
    obtain ⟨⟨bs, r2⟩, s2⟩ := readsB rb q
    exact SeqAt.compareNe_shaped r1 r2 s1 s2 (by have := r.ok.un; omega) h

/-- x in a list or a tuple -/
noncomputable def pick (gc : GC) (g : Gh) (h : Heap) (y : Value) : Option AV := by
  classical
  exact if q : ∃ v, plainN 39 v = true ∧ Rep gc g h v y then some q.choose else none
noncomputable def isX (gc : GC) (g : Gh) (h : Heap) (v : AV) (y : Value) : Bool :=
  match pick gc g h y with
  | some w => PyData.eqv (toD w) (toD v)
  | none => false
theorem pick_of {gc : GC} {h : Heap} {v : AV} {y : Value} (p : plainN 39 v = true) (r : Rep gc g h v y) : pick gc g h y = some v := by
  unfold pick
  have q : ∃ v, plainN 39 v = true ∧ Rep gc g h v y := ⟨v, p, r⟩
  rw [dif_pos q, rep_inj 39 _ _ y q.choose_spec.1 p q.choose_spec.2 r]
theorem isX_any {v : AV} (pv : plain v = true) (inst : ∀ xs : List AV, Decidable (v ∈ xs)) : ∀ {xs : List AV} {us : List Value}, plainL xs = true → RepL X.gc g s.heap xs us → us.any (isX X.gc g s.heap v) = @decide (v ∈ xs) (inst xs)
  | [], us, _, r => by
    have e : us = [] := by simpa only [RepL] using r
    subst e
    simp
  | x :: xs, us, p, r => by
    simp only [RepL] at r
    obtain ⟨u, q, rfl, r1, r2⟩ := r
    have p' : plainN 39 x = true ∧ plainLN 39 xs = true := by simpa only [plainL, plainLN, Bool.and_eq_true] using p
    rw [List.any_cons, isX_any pv inst p'.2 r2]
    have hx : isX X.gc g s.heap v u = PyData.eqv (toD x) (toD v) := by
      unfold isX
      rw [pick_of p'.1 r1]
    rw [hx, Bool.eq_iff_iff, Bool.or_eq_true, decide_eq_true_eq, decide_eq_true_eq, List.mem_cons]
    have px : plain x = true := plainN_up p'.1
    rw [eqv_iff 40 x v px pv]
    exact ⟨fun h => h.elim (fun e => .inl e.symm) .inr, fun h => h.elim (fun e => .inl e.symm) .inr⟩
theorem isX_at {A : Around} {v : AV} {x : Value} (hu : A.units + 64 < cLine) (pv : plain v = true) (rv : RepB X g s.heap v x) : ∀ {xs : List AV} {us : List Value}, plainL xs = true → RepL X.gc g s.heap xs us → ∀ y ∈ us, SeqAt.EqAt A s y x (isX X.gc g s.heap v y)
  | [], us, _, r, y, hy => by
    have e : us = [] := by simpa only [RepL] using r
    subst e
    cases hy
  | z :: xs, us, p, r, y, hy => by
    simp only [RepL] at r
    obtain ⟨u, q, rfl, r1, r2⟩ := r
    have p' : plainN 39 z = true ∧ plainLN 39 xs = true := by simpa only [plainL, plainLN, Bool.and_eq_true] using p
    rcases List.mem_cons.mp hy with e | hy
    · subst e
      have hx : isX X.gc g s.heap v y = PyData.eqv (toD z) (toD v) := by
        unfold isX
        rw [pick_of p'.1 r1]
      rw [hx]
      obtain ⟨⟨as, h1⟩, h2, h3⟩ := reads_of 39 z y p'.1 r1
      obtain ⟨⟨bs, k1⟩, k2⟩ := readsB rv pv
      exact SeqAt.eqAt_reads _ _ A s _ _ _ _ h1 k1 h2 (SeqAt.canLay_of_shaped k2) (by omega)
    · exact isX_at hu pv rv p'.2 r2 y hy

theorem is_ref_bool {b : Bool} {A : Around} {P : Program} {wd : World} {c : Bool} (h : Q (.bool (b == c)) s) : wpAny (model P wd) A (compareOp .Is (.bool b) (.bool c)) Q E s := is_bool h
theorem none_iff {v : AV} (r : RepB X g s.heap v u) : (u == Value.none) = isNon v := by
  cases v with
  | non => simp only [RepB, Rep] at r; subst r; rfl
  | bl _ => simp only [RepB, Rep] at r; subst r; rfl
  | int _ => simp only [RepB, Rep] at r; obtain ⟨t, rfl⟩ := r; rfl
  | str _ => simp only [RepB, Rep] at r; obtain ⟨t, rfl, _⟩ := r; rfl
  | tup _ => simp only [RepB, Rep] at r; obtain ⟨a, us, rfl, _⟩ := r; rfl
  | lst _ => obtain ⟨a, us, rfl, _⟩ := r; rfl
  | ref _ => simp only [RepB, Rep] at r; obtain ⟨p, _, rfl⟩ := r; rfl
  | ins _ _ _ => simp only [RepB, Rep] at r; obtain ⟨a, dx, C, us, rfl, _⟩ := r; rfl
  | ty _ => simp only [RepB, Rep] at r; subst r; rfl
  | fn _ => simp only [RepB, Rep] at r
  | dct _ _ => simp only [RepB, Rep] at r; obtain ⟨a, kt, us, rfl, _⟩ := r; rfl
  | scr _ => simp only [RepB, Rep] at r
theorem inseq_ok {v : AV} {xs : List AV} {z : Bool} {y : Value} (neg : Bool) (r : SR X g st s) (ra : RepB X g s.heap v u) (rb : RepB X g s.heap (.lst xs) w ∨ RepB X g s.heap (.tup xs) w) (e : inA v xs = some z)
    (h : Q (.bool (if neg then !z else z)) s) : wpAny (model X.gc.P X.gc.w) X.A (compareOp (if neg then .NotIn else .In) u w) Q E s := by
  unfold inA at e
  split at e
  case isFalse => cases e
  rename_i hp
  have e' := Option.some.inj e
  have hu : X.A.in1.units + 64 < cLine := by have := r.ok.un; show X.A.units + 1 + 64 < cLine; omega
  have key : ∀ us, RepL X.gc g s.heap xs us → us.toArray.any (isX X.gc g s.heap v) = z := fun us q => by
    have k := isX_any (X := X) (g := g) (s := s) hp.1 (fun _ => Classical.propDecidable _) hp.2 q
    rw [show us.toArray.any (isX X.gc g s.heap v) = us.any (isX X.gc g s.heap v) by simp, k, ← e']
    congr
  rcases rb with ⟨a, us, rfl, l, q, _⟩ | rb
  · obtain ⟨_, m, e⟩ := id l
    have hl : s.heap.IsList a us.toArray := ⟨_, e, rfl, m, rfl⟩
    cases neg with
    | false => exact SeqAt.in_listAt _ hl (fun y hy => isX_at hu hp.1 ra hp.2 q y (by simpa using hy)) (by rw [key us q]; exact h)
    | true => exact SeqAt.notIn_listAt _ hl (fun y hy => isX_at hu hp.1 ra hp.2 q y (by simpa using hy)) (by rw [key us q]; exact h)
  · simp only [RepB, Rep] at rb
    obtain ⟨a, us, rfl, _, l, q⟩ := rb
    cases neg with
    | false => exact SeqAt.in_tupleAt _ l.2.1 (fun y hy => isX_at hu hp.1 ra hp.2 q y (by simpa using hy)) (by rw [key us q]; exact h)
    | true => exact SeqAt.notIn_tupleAt _ l.2.1 (fun y hy => isX_at hu hp.1 ra hp.2 q y (by simpa using hy)) (by rw [key us q]; exact h)

theorem cop_ok {o : COp} {a b : AV} {z : Bool} (r : SR X g st s) (ra : RepB X g s.heap a u) (rb : RepB X g s.heap b w) (e : cop o a b = some z) (h : Q (.bool z) s) :
    wpAny (model X.gc.P X.gc.w) X.A (compareOp (cmpOf o) u w) Q E s := by
  unfold cop at e
  split at e
  case h_1 => exact eq_ok r ra rb e h
  case h_2 =>
    cases q : eqA a b with
    | none => rw [q] at e; cases e
    | some k =>
      rw [q] at e; cases e
      exact ne_ok r ra rb q h
  case h_3 i j =>
    cases e
    simp only [RepB, Rep] at ra rb
    obtain ⟨t, rfl⟩ := ra
    obtain ⟨t', rfl⟩ := rb
    exact PyProof.Rows.lt_int h
  case h_4 x y =>
    cases e
    simp only [RepB, Rep] at ra rb
    obtain ⟨t, rfl, _⟩ := ra
    obtain ⟨t', rfl, _⟩ := rb
    refine PySem.P.lt_str ?_
    rw [tx_cps, tx_cps]
    exact cast (by congr 2) h
  case h_5 i j =>
    cases e
    simp only [RepB, Rep] at ra rb
    obtain ⟨t, rfl⟩ := ra
    obtain ⟨t', rfl⟩ := rb
    exact PyProof.Rows.le_int h
  case h_6 i j =>
    cases e
    simp only [RepB, Rep] at ra rb
    obtain ⟨t, rfl⟩ := ra
    obtain ⟨t', rfl⟩ := rb
    exact PyProof.Rows.gt_int h
  case h_7 i j =>
    cases e
    simp only [RepB, Rep] at ra rb
    obtain ⟨t, rfl⟩ := ra
    obtain ⟨t', rfl⟩ := rb
    exact PyProof.Rows.ge_int h
  case h_8 x y =>
    cases e
    simp only [RepB, Rep] at ra rb
    subst ra rb
    exact is_bool h
  case h_9 =>
    cases e
    have hn := none_iff ra
    simp only [RepB, Rep] at rb
    subst rb
    exact is_none_gen (by rw [hn]; exact h)
  case h_10 x y =>
    cases e
    simp only [RepB, Rep] at ra rb
    subst ra rb
    exact isnot_bool h
  case h_11 =>
    cases e
    have hn := none_iff ra
    simp only [RepB, Rep] at rb
    subst rb
    exact isnot_none_gen (by rw [hn]; exact h)
  case h_12 x y =>
    cases e
    simp only [RepB, Rep] at ra rb
    obtain ⟨t, rfl, _⟩ := ra
    obtain ⟨t', rfl, _⟩ := rb
    refine PySem.P.in_str ?_
    rw [found_inf]
    exact cast (by congr 2) h
  case h_13 xs => exact inseq_ok (y := u) false r ra (.inl rb) e h
  case h_14 xs => exact inseq_ok (y := u) false r ra (.inr rb) e h
  case h_15 x y =>
    cases e
    simp only [RepB, Rep] at ra rb
    obtain ⟨t, rfl, _⟩ := ra
    obtain ⟨t', rfl, _⟩ := rb
    refine PySem.P.notIn_str ?_
    rw [found_inf]
    exact cast (by congr 3) h
  case h_16 xs =>
    cases q : inA a xs with
    | none => rw [q] at e; cases e
    | some k =>
      rw [q] at e; cases e
      exact inseq_ok (y := u) true r ra (.inl rb) q h
  case h_17 xs =>
    cases q : inA a xs with
    | none => rw [q] at e; cases e
    | some k =>
      rw [q] at e; cases e
      exact inseq_ok (y := u) true r ra (.inr rb) q h
  case h_18 => cases e
/-- a value's truth -/
theorem truth_ok {v : AV} {b : Bool} {Q : Bool → Shared → Prop} (r : SR X g st s) (ra : RepB X g s.heap v u) (e : truth v = some b) (h : ∀ k, s.toks ≤ k → Q b { s with toks := k }) :
    wpAny (model X.gc.P X.gc.w) X.A (truthy u) Q E s := by
  have h0 : Q b s := h s.toks (Nat.le_refl _)
  cases v with
  | non =>
    cases e
    simp only [RepB, Rep] at ra
    subst ra
    exact truthy_none h0
  | bl k =>
    cases e
    simp only [RepB, Rep] at ra
    subst ra
    exact wpAny_truthy_bool h0
  | int i =>
    cases e
    simp only [RepB, Rep] at ra
    obtain ⟨t, rfl⟩ := ra
    refine PySem.P.truthy_int ?_
    exact cast (by congr 1; rw [Bool.eq_iff_iff]; simp) h0
  | str x =>
    cases e
    simp only [RepB, Rep] at ra
    obtain ⟨t, rfl, _, o⟩ := ra
    have hL : LIM = 16777216 := rfl
    have ho := o.1
    refine PySem.P.truthy_str (by rw [tx_len]; omega) ?_
    refine cast (by congr 1; rw [tx_len]; cases x <;> simp <;> omega) (h (s.toks + 1 + 1) (by omega))
  | lst xs =>
    cases e
    obtain ⟨a, us, rfl, ⟨z, m, e⟩, q, _⟩ := ra
    have hL : LIM = 16777216 := rfl
    refine wpAny_truthy_list ⟨_, e, rfl, m, rfl⟩ (by rw [List.size_toArray]; omega) ?_
    refine cast (by congr 1; have := q.length; cases xs <;> cases us <;> simp_all) (h (s.toks + 1 + 1) (by omega))
  | tup xs =>
    cases e
    simp only [RepB, Rep] at ra
    obtain ⟨a, us, rfl, _, l, q⟩ := ra
    have hL : LIM = 16777216 := rfl
    have hz := l.1
    refine truthy_tuple l.2.1 (by rw [List.size_toArray]; omega) ?_
    refine cast (by congr 1; have := q.length; cases xs <;> cases us <;> simp_all) (h (s.toks + 1 + 1) (by omega))
  | _ => cases e
end
end Q
end

section
set_option Elab.async false
set_option linter.all false
set_option maxRecDepth 100000
/-! Core6: built-in functions, methods, subscripts, slices. -/
namespace Q
open PySem PySem.Spec PyProof.Rows

section
variable {X : Fx} {g g' : Gh} {st st' : S} {s s' : Shared} {u w : Value} {Q : Value → Shared → Prop} {E : Value → Shared → Prop}
/-- tokens only grow -/
theorem wp_toks {α : Type} {M : Model} {A : Around} {t : Sem α} {Q : α → Shared → Prop} (h : wpAny M A t (fun a s' => s.toks ≤ s'.toks → Q a s') E s) : wpAny M A t Q E s :=
  wpAny_mono (wpAny_toks_of (Nat.le_refl _) h) (fun _ _ q => q.2 q.1) fun _ _ q => q.2

theorem intsOf_are : ∀ {xs : List AV} {ns : List Int} {us : List Value} {gc : GC} {h : Heap}, intsOf xs = some ns → RepL gc g h xs us → IntsAre us ns
  | [], ns, us, gc, h, e, r => by
    cases e
    have e : us = [] := by simpa only [RepL] using r
    subst e; exact .nil
  | .int i :: xs, ns, us, gc, h, e, r => by
    simp only [intsOf, Option.map_eq_some_iff] at e
    obtain ⟨ms, e1, rfl⟩ := e
    simp only [RepL, Rep] at r
    obtain ⟨u, q, rfl, ⟨t, rfl⟩, r2⟩ := r
    exact .cons i t (intsOf_are e1 r2)
  | .non :: _, _, _, _, _, e, _ => by simp [intsOf] at e
  | .bl _ :: _, _, _, _, _, e, _ => by simp [intsOf] at e
  | .str _ :: _, _, _, _, _, e, _ => by simp [intsOf] at e
  | .tup _ :: _, _, _, _, _, e, _ => by simp [intsOf] at e
  | .lst _ :: _, _, _, _, _, e, _ => by simp [intsOf] at e
  | .ref _ :: _, _, _, _, _, e, _ => by simp [intsOf] at e
  | .ins _ _ _ :: _, _, _, _, _, e, _ => by simp [intsOf] at e
  | .dct _ _ :: _, _, _, _, _, e, _ => by simp [intsOf] at e
  | .ty _ :: _, _, _, _, _, e, _ => by simp [intsOf] at e
  | .fn _ :: _, _, _, _, _, e, _ => by simp [intsOf] at e
  | .scr _ :: _, _, _, _, _, e, _ => by simp [intsOf] at e
theorem repL_ints : ∀ {ns : List Int} {us : List Value} {gc : GC} {h : Heap}, IntsAre us ns → RepL gc g h (ns.map .int) us
  | _, _, _, _, .nil => RepL.nil
  | _, _, _, _, .cons n t r => RepL.cons rep_int (repL_ints r)
theorem strsOf_are : ∀ {xs : List AV} {ys : List Tx} {us : List Value} {gc : GC} {h : Heap}, strsOf xs = some ys → RepL gc g h xs us →
    ∃ l : List (Str × Tok), us = strValues l ∧ l.map (·.1) = ys.map tx ∧ (∀ (p : Str × Tok) (y : Tx), p ∈ l → p.1 = tx y → g.tk p.2 = some y) ∧ ∀ y ∈ ys, TxOk y
  | [], ys, us, gc, h, e, r => by
    cases e
    have e : us = [] := by simpa only [RepL] using r
    subst e
    exact ⟨[], rfl, rfl, fun p y hp _ => absurd hp (by simp), fun y hy => absurd hy (by simp)⟩
  | .str x :: xs, ys, us, gc, h, e, r => by
    simp only [strsOf, Option.map_eq_some_iff] at e
    obtain ⟨zs, e1, rfl⟩ := e
    simp only [RepL, Rep] at r
    obtain ⟨u, q, rfl, ⟨t, rfl, kt, ox⟩, r2⟩ := r
    obtain ⟨l, e2, e3, e4, e5⟩ := strsOf_are e1 r2
    refine ⟨(tx x, t) :: l, by rw [e2]; rfl, by rw [List.map_cons, List.map_cons, e3], fun p y hp hy => ?_, fun y hy => ?_⟩
    · rcases List.mem_cons.mp hp with z | z
      · subst z
        have : x = y := tx_inj hy
        rw [← this]; exact kt
      · exact e4 p y z hy
    · rcases List.mem_cons.mp hy with z | z
      · rw [z]; exact ox
      · exact e5 y z
  | .non :: _, _, _, _, _, e, _ => by simp [strsOf] at e
  | .bl _ :: _, _, _, _, _, e, _ => by simp [strsOf] at e
  | .int _ :: _, _, _, _, _, e, _ => by simp [strsOf] at e
  | .tup _ :: _, _, _, _, _, e, _ => by simp [strsOf] at e
  | .lst _ :: _, _, _, _, _, e, _ => by simp [strsOf] at e
  | .ref _ :: _, _, _, _, _, e, _ => by simp [strsOf] at e
  | .ins _ _ _ :: _, _, _, _, _, e, _ => by simp [strsOf] at e
  | .dct _ _ :: _, _, _, _, _, e, _ => by simp [strsOf] at e
  | .ty _ :: _, _, _, _, _, e, _ => by simp [strsOf] at e
  | .fn _ :: _, _, _, _, _, e, _ => by simp [strsOf] at e
  | .scr _ :: _, _, _, _, _, e, _ => by simp [strsOf] at e

def bfV : BF → Value
  | .len => .builtin "len"
  | .int => .type "int"
  | .list => .type "list"
  | .tuple => .type "tuple"
  | .sorted => .builtin "sorted"
  | .isinst => .builtin "isinstance"
  | .max => .builtin "max"
  | .min => .builtin "min"
  | .dict => .type "dict"

theorem isList_of {h : Heap} {a : Addr} {us : List Value} (l : LstAt h a us) : h.IsList a us.toArray := let ⟨_, n, e⟩ := l; ⟨_, e, rfl, n, rfl⟩
theorem small_LIM {n : Nat} (h : n ≤ LIM) : (n : Int) < 2 ^ 63 := by
  have hL : LIM = 16777216 := rfl
  omega
theorem kitB_all : ∀ a ∈ ["NoneType", "int", "bool", "str", "tuple", "list"], ∀ b ∈ tys, L2.kitB a b = some (a == b || (a == "bool" && b == "int")) := by decide +kernel
theorem kIn (r : SR X g st s) : X.gc.K.In s.heap := r.ok.mod.kin.keeps r.base
theorem isinst_ok {v : AV} {n : String} {b : Bool} (r : SR X g st s) (ra : RepB X g s.heap v u) (e : isInst v n = some b) (h : ∀ k, s.toks ≤ k → Q (.bool b) { s with toks := k }) :
    wpAny (model X.gc.P X.gc.w) X.A (call (.builtin "isinstance") [u, .type n]) Q E s := by
  unfold isInst at e
  split at e
  case isFalse => cases e
  rename_i hn
  refine wp_toks ?_
  have fin : ∀ tk, (fun (a : Value) (s' : Shared) => s.toks ≤ s'.toks → Q a s') (.bool b) { s with toks := tk } := fun tk hk => h tk hk
  have kit : ∀ a ∈ ["NoneType", "int", "bool", "str", "tuple", "list"], some (a == n || (a == "bool" && n == "int")) = some b → PySem.W.kitOne X.gc.K (.type a) (.type n) = some b := fun a ha e => L2.kit_ty ((kitB_all a ha n hn).trans e)
  cases v with
  | non =>
    simp only [RepB, Rep] at ra
    subst ra
    exact PySem.W.kia_one PySem.W.kitx_none (kIn r) True.intro (kit _ (by simp) (by simpa [kindV] using e)) (fun z => nomatch z) fin
  | bl y =>
    simp only [RepB, Rep] at ra
    subst ra
    exact PySem.W.kia_one PySem.W.kitx_bool (kIn r) True.intro (kit _ (by simp) (by simpa [kindV] using e)) (fun z => nomatch z) fin
  | int i =>
    simp only [RepB, Rep] at ra
    obtain ⟨t, rfl⟩ := ra
    exact PySem.W.kia_one PySem.W.kitx_int (kIn r) True.intro (kit _ (by simp) (by simpa [kindV] using e)) (fun z => nomatch z) fin
  | str y =>
    simp only [RepB, Rep] at ra
    obtain ⟨t, rfl, _⟩ := ra
    exact PySem.W.kia_one PySem.W.kitx_str (kIn r) True.intro (kit _ (by simp) (by simpa [kindV] using e)) (fun z => nomatch z) fin
  | tup y =>
    simp only [RepB, Rep] at ra
    obtain ⟨a, us, rfl, _, ⟨_, ⟨o, h1, h2, _⟩, _⟩, _⟩ := ra
    exact PySem.W.kia_one PySem.W.kitx_tuple (kIn r) ⟨o, h1, h2⟩ (kit _ (by simp) (by simpa [kindV] using e)) (fun z => nomatch z) fin
  | lst y =>
    obtain ⟨a, us, rfl, ⟨_, m, h1⟩, _⟩ := ra
    exact PySem.W.kia_one PySem.W.kitx_list (kIn r) ⟨_, h1, rfl⟩ (kit _ (by simp) (by simpa [kindV] using e)) (fun z => nomatch z) fin
  | _ => cases e

theorem sortI_eq {ns ms : List Int} (p : ms.Perm ns) (o : ms.Pairwise (· ≤ ·)) : ms = sortI ns := by
  refine PySem.W.ksm_same (p.trans (List.mergeSort_perm ns _).symm) o ?_
  have := List.pairwise_mergeSort (le := fun a b : Int => decide (a ≤ b)) (fun a b c h1 h2 => by simp only [decide_eq_true_eq] at *; omega) (fun a b => by simp only [Bool.or_eq_true, decide_eq_true_eq]; omega) ns
  exact this.imp fun h => by simpa using h

theorem max_eq {ns : List Int} {m : Int} (hm : m ∈ ns) (hle : ∀ a, a ∈ ns → a ≤ m) : m = maxI ns := by
  have key : ∀ (r : List Int) (n : Int), (r.foldl max n = n ∨ r.foldl max n ∈ r) ∧ n ≤ r.foldl max n ∧ ∀ a ∈ r, a ≤ r.foldl max n := by
    intro r
    induction r with
    | nil => intro n; simp
    | cons x r ih =>
      intro n
      obtain ⟨h1, h2, h3⟩ := ih (max n x)
      rw [List.foldl_cons]
      refine ⟨?_, by omega, fun a ha => ?_⟩
      · rcases h1 with h1 | h1
        · by_cases hx : n ≤ x
          · right; rw [h1, Int.max_eq_right hx]; exact List.mem_cons_self
          · left; rw [h1, Int.max_eq_left (by omega)]
        · exact .inr (List.mem_cons_of_mem _ h1)
      · rcases List.mem_cons.mp ha with rfl | ha
        · omega
        · exact h3 a ha
  cases ns with
  | nil => cases hm
  | cons n r =>
    obtain ⟨h1, h2, h3⟩ := key r n
    show m = r.foldl max n
    have hle' : r.foldl max n ≤ m := by
      rcases h1 with h1 | h1
      · rw [h1]; exact hle n List.mem_cons_self
      · exact hle _ (List.mem_cons_of_mem _ h1)
    rcases List.mem_cons.mp hm with rfl | hm
    · omega
    · have := h3 m hm
      omega
theorem sys_lt (r : SR X g st s) : sysModules < s.heap.objs.size := by
  obtain ⟨o, es, ep, e, _⟩ := r.ok.mod.glob
  exact Nat.lt_trans (by decide) (Heap.lt_size (r.base _ _ e))
/-- the pairs of a tuple -/
theorem pairs_at {gc : GC} {h : Heap} : ∀ {ps : List AV} {q : List (Tx × AV)} {its : List Value}, pairsOf ps = some q → RepL gc g h ps its →
    ∃ (bs : List Addr) (prs : List (Value × Value)), its = bs.map .ref ∧ prs.length = bs.length ∧ q.length = bs.length ∧ (∀ (j : Nat) k v, prs[j]? = some (k, v) → PairAt h (bs.getD j 0) k v) ∧
      (∀ (j : Nat) k v, prs[j]? = some (k, v) → ∃ t x, q[j]? = some x ∧ k = .str (tx x.1) t) ∧ RepL gc g h (q.map (·.2)) (prs.map (·.2))
  | [], q, its, e, r => by
    cases e
    have e : its = [] := by simpa only [RepL] using r
    subst e
    exact ⟨[], [], rfl, rfl, rfl, fun j k v hj => by simp at hj, fun j k v hj => by simp at hj, RepL.nil⟩
  | .tup [.str k, v] :: ps, q, its, e, r => by
    simp only [pairsOf, Option.map_eq_some_iff] at e
    obtain ⟨q', e1, rfl⟩ := e
    simp only [RepL, Rep] at r
    obtain ⟨u, its', rfl, ⟨a, us, rfl, _, l, w1, l1, rfl, ⟨t, rfl, _⟩, w2, l2, rfl, r2, rfl⟩, rr⟩ := r
    obtain ⟨bs, prs, h1, h2, h3, h4, h5, h6⟩ := pairs_at e1 rr
    refine ⟨a :: bs, (.str (tx k) t, w2) :: prs, by rw [h1]; rfl, by simp [h2], by simp [h3], fun j k' v' hj => ?_, fun j k' v' hj => ?_, RepL.cons r2 h6⟩
    · cases j with
      | zero =>
        simp at hj
        obtain ⟨rfl, rfl⟩ := hj
        exact .inl l.2.1
      | succ j => exact h4 j k' v' (by simpa using hj)
    · cases j with
      | zero =>
        simp at hj
        obtain ⟨rfl, rfl⟩ := hj
        exact ⟨t, (k, v), rfl, rfl⟩
      | succ j => exact h5 j k' v' (by simpa using hj)
theorem dict_ok {ps : List AV} {z : AV × Bool} {a : Addr} {its : List Value} (r : SR X g st s) (l : TupAt s.heap a its) (q : RepL X.gc g s.heap ps its) (e : (pairsOf ps).bind dctO = some z) (h : PostV X g st s z.1 z.2 Q) :
    wpAny (model X.gc.P X.gc.w) X.A (call (.type "dict") [.ref a]) Q E s := by
  obtain ⟨qs, e1, e2⟩ := Option.bind_eq_some_iff.mp e
  unfold dctO at e2
  split at e2
  case isFalse => cases e2
  rename_i nd
  cases e2
  obtain ⟨bs, prs, rfl, h2, h3, h4, h5, h6⟩ := pairs_at e1 q
  obtain ⟨hz, ⟨o, ho, hc, n, hd⟩, hdn⟩ := l
  have ndt : ((qs.map (·.1)).map tx).Nodup := by
    rw [List.nodup_iff_pairwise_ne, List.pairwise_map]
    exact (List.nodup_iff_pairwise_ne.mp nd).imp fun hne e => hne (tx_inj e)
  have lz : ((qs.map (·.1)).map tx).length = (prs.map (·.2)).length := by simp; omega
  have kfst : (((qs.map (·.1)).map tx).zip (prs.map (·.2))).map (·.1) = (qs.map (·.1)).map tx := List.map_fst_zip (by omega)
  have hlp : bs.length = prs.length := h2.symm
  refine wp_toks (call_dict_pairs (knd := strKind X.gc.P X.gc.w) (kvs := ((qs.map (·.1)).map tx).zip (prs.map (·.2))) (PairArg.tuple a (bs.map Value.ref).toArray (fun j => bs.getD j 0) prs) r.ok.hd ⟨⟨o, n, ho, hc, hdn o ho, hd⟩, by simp [hlp], fun j k v hj => ⟨?_, h4 j k v hj⟩⟩ ⟨?_, fun i key v hj => ?_⟩ ?_ fun h' tk hd' hk ht => ?_)
  · have hj' : j < bs.length := by rw [hlp]; exact (List.getElem?_eq_some_iff.mp hj).1
    simp [hj']
  · simp; omega
  · obtain ⟨t, x, e3, rfl⟩ := h5 i key v hj
    have hj' : prs[i]? = some (Value.str (tx x.1) t, v) := hj
    refine ⟨tx x.1, ?_, by simp [PySem.strKind, PySem.Value.isStrOf]⟩
    rw [List.getElem?_zip_eq_some]
    simp [e3, hj']
  · rw [LIM_eq, ← hlp]; simpa using hz
  · rw [merged_nil_of_nodup _ (by rw [kfst]; exact ndt)] at hd'
    have hdo : ∃ ob, h'.get? s.heap.objs.size = some ob := let ⟨ob, _, _, e, _⟩ := hd'; ⟨ob, e⟩
    have hne : (s.heap.objs.size == sysModules) = false := by
      have := sys_lt r
      rw [beq_eq_false_iff_ne]
      exact Nat.ne_of_gt this
    refine r.newFzAt (p := s.heap.objs.size) (fun b ob eb => hk b ob (by simp) eb) (Heap.get?_none_of_le (Nat.le_refl _)) hdo (fun m hf => ?_) ht h
    simp only [Rep]
    exact ⟨_, qs.map (·.1), prs.map (·.2), rfl, hf, hne, by simp, nd, by simpa using lz, hd', RepL.mono m h6⟩
theorem bfun_ok {f : BF} {as : List AV} {us : List Value} {z : AV × Bool} (r : SR X g st s) (ra : RepBL X g s.heap as us) (e : bfun f as st.hp = some z) (h : PostV X g st s z.1 z.2 Q) :
    wpAny (model X.gc.P X.gc.w) X.A (call (bfV f) us) Q E s := by
  unfold bfun at e
  split at e
  case h_1 x _ =>
    cases e
    obtain ⟨u, q, rfl, ra, rfl⟩ := ra
    simp only [RepB, Rep] at ra
    obtain ⟨t, rfl, _, o⟩ := ra
    have hz := small_LIM o.1
    refine PySem.P.len_str (by rw [tx_len]; omega) ?_
    rw [tx_len]
    exact r.int (by omega) h
  case h_2 xs _ =>
    cases e
    obtain ⟨u, q, rfl, ra, rfl⟩ := ra
    obtain ⟨a, us, rfl, l, q, _⟩ := ra
    have hz := small_LIM l.1
    refine PySem.Calls.call_len_list (isList_of l) (by rw [List.size_toArray]; exact hz) ?_
    rw [List.size_toArray, q.length]
    exact r.int (by omega) h
  case h_3 xs _ =>
    cases e
    obtain ⟨u, q, rfl, ra, rfl⟩ := ra
    simp only [RepB, Rep] at ra
    obtain ⟨a, us, rfl, _, l, q⟩ := ra
    have hz := small_LIM l.1
    refine PyProof.Rows.len_tuple l.2.1 (by rw [List.size_toArray]; exact hz) ?_
    rw [List.size_toArray, q.length]
    exact r.int (by omega) h
  case h_4 =>
    obtain ⟨u, q, rfl, ra, rfl⟩ := ra
    simp only [RepB, Rep] at ra
  case h_5 =>
    obtain ⟨u, q, rfl, ra, rfl⟩ := ra
    simp only [RepB, Rep] at ra
    obtain ⟨p, ep, rfl⟩ := ra
    unfold lenH at e
    split at e
    · rename_i xs ex
      cases e
      obtain ⟨e1, us, l, q⟩ : CellR X.gc g s.heap (.lst xs) p := r.gh.cell _ p _ ep ex
      have hz := small_LIM l.1
      refine PySem.Calls.call_len_list (isList_of l) (by rw [List.size_toArray]; exact hz) ?_
      rw [List.size_toArray, q.length]
      exact r.int (by omega) h
    · cases e
  case h_6 i _ =>
    cases e
    obtain ⟨u, q, rfl, ra, rfl⟩ := ra
    simp only [RepB, Rep] at ra
    obtain ⟨t, rfl⟩ := ra
    exact call_int_int (r.int (Nat.le_refl _) h)
  case h_7 b _ =>
    cases e
    obtain ⟨u, q, rfl, ra, rfl⟩ := ra
    simp only [RepB, Rep] at ra
    subst ra
    exact call_int_bool (r.int (Nat.le_succ _) h)
  case h_8 xs _ =>
    cases e
    obtain ⟨u, q, rfl, ra, rfl⟩ := ra
    obtain ⟨a, us, rfl, l, q, _⟩ := ra
    obtain ⟨n, e⟩ := lst_eq l
    exact call_list_seq a (.inl rfl) e rfl rfl (fun h' c' kp e => r.newLstAt (k := s.toks) kp (Heap.get?_none_of_le (Nat.le_refl _)) ⟨l.1, c', e⟩ q (Nat.le_refl _) h) (by rw [List.size_toArray, LIM_eq]; exact l.1)
  case h_9 xs _ =>
    cases e
    obtain ⟨u, q, rfl, ra, rfl⟩ := ra
    simp only [RepB, Rep] at ra
    obtain ⟨a, us, rfl, _, l, q⟩ := ra
    obtain ⟨_, ⟨o, ho, hc, n, hd⟩, _⟩ := id l
    exact call_list_seq a (.inr rfl) ho hc hd (fun h' c' kp e => r.newLstAt (k := s.toks) kp (Heap.get?_none_of_le (Nat.le_refl _)) ⟨l.1, c', e⟩ q (Nat.le_refl _) h) (by rw [List.size_toArray, LIM_eq]; exact l.1)
  case h_10 =>
    obtain ⟨u, q, rfl, ra, rfl⟩ := ra
    simp only [RepB, Rep] at ra
  case h_11 xs _ =>
    cases e
    obtain ⟨u, q, rfl, ra, rfl⟩ := ra
    obtain ⟨a, us, rfl, l, q, _⟩ := ra
    refine call_tuple_list (isList_of l) (fun h' kp => ?_) (by rw [List.size_toArray, LIM_eq]; exact l.1)
    have hz : s.heap.get? h'.objs.size = none := by
      cases z : s.heap.get? h'.objs.size with
      | none => rfl
      | some o => exact absurd (Heap.lt_size (kp _ _ z)) (Nat.lt_irrefl _)
    exact r.newTupAt (k := s.toks) (fun b o e => Heap.get?_push_of_some _ (kp b o e)) hz ⟨l.1, ⟨_, Heap.get?_push_size h' rfl, rfl, 0, rfl⟩, fun o e => by rw [Heap.get?_push_size h' rfl] at e; cases e; rfl⟩ q (Nat.le_refl _) h
  case h_12 xs _ =>
    cases e
    obtain ⟨u, q, rfl, ra, rfl⟩ := ra
    have ra' := ra
    simp only [RepB, Rep] at ra
    obtain ⟨a, us, rfl, _, l, q⟩ := ra
    exact call_tuple_same l.2.1 (r.val ra' h)
  case h_13 xs _ =>
    obtain ⟨ns, e1, rfl⟩ := Option.map_eq_some_iff.mp e
    obtain ⟨u, q, rfl, ra, rfl⟩ := ra
    obtain ⟨a, us, rfl, l, q, _⟩ := ra
    have hi := intsOf_are e1 q
    refine sorted_intsAny (isList_of l) hi (by rw [LIM_eq]; exact l.1) fun out ns' h1 h2 h3 => ?_
    obtain ⟨ep, he'⟩ := sortedAll_at s.heap us out
    have e2 := sortI_eq h2 h3
    subst e2
    have hl : out.toList.length ≤ LIM := by rw [h1.length, h2.length_eq, ← hi.length]; exact l.1
    exact r.newLstAt (k := s.toks) (fun _ _ => sortedAll_old) (Heap.get?_none_of_le (Nat.le_succ _)) ⟨hl, ep, he'⟩ (repL_ints h1) (Nat.le_refl _) h
  case h_14 v n _ =>
    obtain ⟨b, e1, rfl⟩ := Option.map_eq_some_iff.mp e
    obtain ⟨u, q, rfl, ra, u2, q2, rfl, rb, rfl⟩ := ra
    simp only [RepB, Rep] at rb
    subst rb
    exact isinst_ok r ra e1 fun k hk => r.tokV hk (fun _ _ => rep_bl) h
  case h_15 hpx i j =>
    cases e
    obtain ⟨u, q, rfl, ra, u2, q2, rfl, rb, rfl⟩ := ra
    simp only [RepB, Rep] at ra rb
    obtain ⟨t, rfl⟩ := ra
    obtain ⟨t', rfl⟩ := rb
    refine wp_toks (max_two_ints r.ok.hd fun h' tk kp hk => ?_)
    obtain ⟨r', f⟩ := r.ext (k := tk) (h' := h') kp hk
    refine h g _ _ r' f ?_
    by_cases hj : j > i
    · rw [if_pos hj, if_pos hj]; exact rep_int (gc := X.gc) (g := g) (h := h')
    · rw [if_neg hj, if_neg hj]; exact rep_int (gc := X.gc) (g := g) (h := h')
  case h_16 hpx i j =>
    cases e
    obtain ⟨u, q, rfl, ra, u2, q2, rfl, rb, rfl⟩ := ra
    simp only [RepB, Rep] at ra rb
    obtain ⟨t, rfl⟩ := ra
    obtain ⟨t', rfl⟩ := rb
    refine wp_toks (min_two_ints r.ok.hd fun h' tk kp hk => ?_)
    obtain ⟨r', f⟩ := r.ext (k := tk) (h' := h') kp hk
    refine h g _ _ r' f ?_
    by_cases hj : j < i
    · rw [if_pos hj, if_pos hj]; exact rep_int (gc := X.gc) (g := g) (h := h')
    · rw [if_neg hj, if_neg hj]; exact rep_int (gc := X.gc) (g := g) (h := h')
  case h_17 xs _ =>
    obtain ⟨ns, e1, e2⟩ := Option.bind_eq_some_iff.mp e
    obtain ⟨u, q, rfl, ra, rfl⟩ := ra
    obtain ⟨a, us, rfl, l, q, _⟩ := ra
    have hi := intsOf_are e1 q
    cases ns with
    | nil => cases e2
    | cons n ns =>
      rw [maxO_c] at e2
      cases e2
      refine wp_toks (L2.max_raw r.ok.hd (isList_of l) hi (by simp) fun h' tk m t' hk h1 h2 ht => ?_)
      obtain ⟨r', f⟩ := r.ext (k := tk) (h' := h') hk ht
      rw [max_eq h1 h2]
      exact h g _ _ r' f (rep_int (gc := X.gc) (g := g) (h := h'))
  case h_18 ps _ =>
    obtain ⟨u, q, rfl, ra, rfl⟩ := ra
    simp only [RepB, Rep] at ra
    obtain ⟨a, us, rfl, _, l, q⟩ := ra
    exact dict_ok r l q e h
  case h_19 => cases e
end
end Q
end

section
set_option Elab.async false
set_option linter.all false
set_option maxRecDepth 100000
/-! Core7: methods of texts. -/
namespace Q
open PySem PySem.Spec PyProof.Rows PySem.Builtin PySem.Builtin.Str

def bmId : BM → String
  | .join => "str.join"
  | .startswith => "str.startswith"
  | .replace => "str.replace"
  | .pop => "list.pop"
  | .get => "dict.get"
def bmName : BM → String
  | .join => "join"
  | .startswith => "startswith"
  | .replace => "replace"
  | .pop => "pop"
  | .get => "get"

/-! ### join -/
theorem joinX_cons (a x : Tx) : ∀ r : List Tx, joinX a (x :: r) = x ++ (r.map (a ++ ·)).flatten
  | [] => by simp [joinX]
  | y :: r => by
    rw [show joinX a (x :: y :: r) = x ++ a ++ joinX a (y :: r) from rfl, joinX_cons a y r]
    simp
theorem glue_fold (a : Tx) : ∀ (r : List Tx) (acc : Array Nat), ((r.map tx).foldl (fun acc p => acc ++ (tx a).cps ++ p.cps) acc).toList = acc.toList ++ (r.map (a ++ ·)).flatten
  | [], acc => by simp
  | x :: r, acc => by
    rw [List.map_cons, List.foldl_cons, glue_fold a r, List.map_cons, List.flatten_cons]
    simp [tx]
theorem glued_tx (a : Tx) (ys : List Tx) : glued (tx a) (ys.map tx) = tx (joinX a ys) := by
  cases ys with
  | nil => rfl
  | cons x r =>
    have h := glue_fold a r (tx x).cps
    show Str.mk ((r.map tx).foldl _ (tx x).cps) = tx (joinX a (x :: r))
    rw [joinX_cons]
    unfold tx
    congr 1
    apply Array.toList_inj.mp
    refine Eq.trans h ?_
    simp [tx]
theorem joinX_len (a : Tx) (ys : List Tx) : (joinX a ys).length ≤ (ys.map (·.length)).sum + ys.length * a.length := by
  cases ys with
  | nil => exact Nat.zero_le _
  | cons x r =>
    rw [joinX_cons, List.length_append, List.map_cons, List.sum_cons, List.length_cons, Nat.succ_mul]
    have : ∀ r : List Tx, (r.map (a ++ ·)).flatten.length = (r.map (·.length)).sum + r.length * a.length := by
      intro r
      induction r with
      | nil => simp
      | cons y r ih =>
        rw [List.map_cons, List.flatten_cons, List.length_append, ih, List.map_cons, List.sum_cons, List.length_cons, Nat.succ_mul, List.length_append]
        omega
    rw [this]; omega
theorem joinX_mem (a : Tx) : ∀ (ys : List Tx) (c : Nat), c ∈ joinX a ys → c ∈ a ∨ ∃ y ∈ ys, c ∈ y
  | [], c, h => by simp [joinX] at h
  | [y], c, h => .inr ⟨y, List.mem_singleton.mpr rfl, h⟩
  | y :: z :: r, c, h => by
    rw [show joinX a (y :: z :: r) = y ++ a ++ joinX a (z :: r) from rfl] at h
    rcases List.mem_append.mp h with h | h
    · rcases List.mem_append.mp h with h | h
      · exact .inr ⟨y, by simp, h⟩
      · exact .inl h
    · rcases joinX_mem a (z :: r) c h with h | ⟨w, hw, h⟩
      · exact .inl h
      · exact .inr ⟨w, List.mem_cons_of_mem _ hw, h⟩
theorem sum_fold (n : Nat) : ∀ (l : List Str) (k : Nat), l.foldl (fun acc p => acc + p.length + n) k = k + (l.map (·.length)).sum + l.length * n
  | [], k => by simp
  | p :: r, k => by
    rw [List.foldl_cons, sum_fold n r, List.map_cons, List.sum_cons, List.length_cons, Nat.succ_mul]
    omega

/-! ### replace -/
theorem replS_eq (o n : Tx) (ho : o ≠ []) : ∀ (k : Nat) (t : Tx), replS o n k t = StrLaws.replS o n k t
  | _, [] => by simp [replS, StrLaws.replS]
  | 0, c :: r => by
    rw [replS, StrLaws.replS]
    have : o.isPrefixOf (c :: r) = true ↔ (c :: r).take o.length = o := by
      rw [List.isPrefixOf_iff_prefix, List.prefix_iff_eq_take]
      exact eq_comm
    by_cases h : (c :: r).take o.length = o
    · rw [if_pos h, if_pos (this.mpr h), replS_eq o n ho _ r]
    · rw [if_neg h, if_neg (fun z => h (this.mp z)), replS_eq o n ho _ r]
  | k + 1, c :: r => by rw [replS, StrLaws.replS, replS_eq o n ho k r]
theorem replX_txt (o n x : Tx) (ho : o ≠ []) : Txt.replace (tx x) (tx o) (tx n) = tx (replX o n x) := by
  have h1 : 1 ≤ (tx o).length := by
    rw [tx_len]
    cases o with
    | nil => exact absurd rfl ho
    | cons c o => simp
  have h := StrLaws.replace_list (x := tx x) (z := tx n) h1
  rw [tx_cps, tx_cps, tx_cps] at h
  unfold replX
  rw [replS_eq o n ho]
  show Txt.replace _ _ _ = Str.mk (List.toArray (StrLaws.replL o n x))
  rw [← h, Array.toArray_toList]
theorem replS_mem (o n : Tx) : ∀ (k : Nat) (t : Tx) (c : Nat), c ∈ replS o n k t → c ∈ n ∨ c ∈ t
  | _, [], c, h => by simp [replS] at h
  | 0, d :: r, c, h => by
    rw [replS] at h
    split at h
    · rcases List.mem_append.mp h with h | h
      · exact .inl h
      · exact (replS_mem o n _ r c h).imp id (List.mem_cons_of_mem _)
    · rcases List.mem_cons.mp h with h | h
      · exact .inr (by rw [h]; exact List.mem_cons_self)
      · exact (replS_mem o n _ r c h).imp id (List.mem_cons_of_mem _)
  | k + 1, d :: r, c, h => by
    rw [replS] at h
    exact (replS_mem o n k r c h).imp id (List.mem_cons_of_mem _)

theorem replace_same (x y : Str) (t u v : Tok) (h0 : (u == 0 || v == 0) = false) (hl : tooLong (x.length + (occurrences x y 0 x.length (x.length + 1)).length * y.length) = false) :
    GivesAt (fun s => NoneBooked s.heap) («str.replace» ⟨[.str x t, .str y u, .str y v], []⟩) (.either (.val (.str x t)) (.str x)) := by
  intro prog w A R s hb hq
  have self := StrLaws.glued_between_self x y
  show wpAny (model prog w) A.in1 (if ((occurrences x y 0 x.length (x.length + 1)).isEmpty || (y.length == 0 && y.length == 0)) = true
      then (rule "str.replace.nothing" >>= fun _ => ret (.str x t))
      else (isSame (.str y u) (.str y v) >>= fun same => if same = true then (rule "str.replace.old-is-new" >>= fun _ => ret (.str x t))
        else if tooLong (x.length + (occurrences x y 0 x.length (x.length + 1)).length * y.length) = true then unsupported "str.replace:memory"
        else retStr (glued y (partsBetween x (occurrences x y 0 x.length (x.length + 1)) y.length)))) _ _ s
  split
  · exact wpAny_bind (wpAny_rule (wpAny_pure hq.1))
  · refine wpAny_bind (wpAny_isSame_str h0 hb fun b => ?_)
    cases b with
    | true => exact wpAny_bind (wpAny_rule (wpAny_pure hq.1))
    | false =>
      rw [hl, self]
      exact wpAny_bind (wpAny_mkStr (wpAny_pure hq.2.2) hq.2.1)
theorem nb_up {h h' : Heap} (b : NoneBooked h) (k : ∀ a o, h.get? a = some o → h'.get? a = some o) : NoneBooked h' := by
  obtain ⟨mc, n, e⟩ := b
  exact ⟨mc, n.at fun o q => k _ o q, e⟩

section
variable {X : Fx} {g g' : Gh} {st st' : S} {s s' : Shared} {u w : Value} {Q : Value → Shared → Prop} {E : Value → Shared → Prop}

theorem replace_ok {a o n : Tx} {t t1 t2 : Tok} (r : SR X g st s) (ha : TxOk a) (ho : TxOk o) (hn : TxOk n) (ka : g.tk t = some a) (k1 : g.tk t1 = some o) (k2 : g.tk t2 = some n) (hne : o ≠ [])
    (hz : (replX o n a).length + a.length ≤ LIM) (h : PostV X g st s (.str (replX o n a)) false Q) : wpAny (model X.gc.P X.gc.w) X.A (call (.builtin "str.replace") [.str (tx a) t, .str (tx o) t1, .str (tx n) t2]) Q E s := by
  have nb : NoneBooked s.heap := nb_up r.ok.bk r.base
  have z1 : t1 ≠ 0 := fun z => by rw [z, r.gh.tk0] at k1; cases k1
  have z2 : t2 ≠ 0 := fun z => by rw [z, r.gh.tk0] at k2; cases k2
  have h0 : (t1 == 0 || t2 == 0) = false := by simp [z1, z2]
  have hok : TxOk (replX o n a) := ⟨by omega, fun c hc => (replS_mem o n 0 a c hc).elim (hn.2 c) (ha.2 c)⟩
  have same : replX o n a = a → Q (.str (tx a) t) s := fun e => r.val (v := .str a) (by simp only [Rep]; exact ⟨t, rfl, ka, ha⟩) (e ▸ h)
  have new : Q (.str (tx (replX o n a)) s.toks) { s with toks := s.toks + 1 } := r.str hok h
  have txt := replX_txt o n a hne
  have ty : s.TypeIs (.str (tx a) t) "str" := typeIs_str _ _ _
  have lenX : (tx (replX o n a)).length ≤ sizeLine := by rw [tx_len, LIM_eq]; exact hok.1
  have fits : ∀ y : Str, glued y (partsBetween (tx a) (occurrences (tx a) (tx o) 0 (tx a).length ((tx a).length + 1)) (tx o).length) = tx (replX o n a) →
      tooLong ((tx a).length + (occurrences (tx a) (tx o) 0 (tx a).length ((tx a).length + 1)).length * y.length) = false := fun y e => by
    have e1 := congrArg Str.length e
    rw [size_glued, length_partsBetween, Nat.add_sub_cancel] at e1
    simp only [tx_len] at e1 ⊢
    unfold tooLong
    rw [LIM_eq]
    exact decide_eq_false (by omega)
  by_cases e : o = n
  · subst e
    have e2 : replX o o a = a := by
      apply tx_inj
      rw [← txt, Txt.replace_self]
    rw [e2] at new
    refine call_givesAt F.slot_str_replace ty F.entry_str_replace (F.args_str_replace_3 _ _ _) (replace_same (tx a) (tx o) t t1 t2 h0 (fits _ (by rw [StrLaws.glued_between_self, e2]))) nb ⟨same e2, by rw [tx_len, LIM_eq]; exact ha.1, new⟩
  · have huv : (t1 == t2) = false := by
      rw [beq_eq_false_iff_ne]
      intro z
      rw [z, k2] at k1
      exact e (Option.some.inj k1).symm
    have hyz : (tx o == tx n) = false := by
      rw [beq_eq_false_iff_ne]
      exact fun z => e (tx_inj z)
    unfold Txt.replace at txt
    refine call_givesAt F.slot_str_replace ty F.entry_str_replace (F.args_str_replace_3 _ _ _) (gives_str_replace2 (tx a) (tx o) (tx n) t t1 t2 fun hc => ⟨h0, huv, ?_⟩) nb ?_
    · rw [if_neg (by rw [hc]; exact Bool.false_ne_true)] at txt
      exact fits _ txt
    · split at txt
      · rename_i hc
        rw [if_pos hc]
        exact same (tx_inj txt).symm
      · rename_i hc
        rw [if_neg hc, hyz, if_neg Bool.false_ne_true, txt]
        exact ⟨lenX, new⟩

theorem join_ok {a : Tx} {t : Tok} {b : Addr} {us : List Value} {xs : List AV} {ys : List Tx} (r : SR X g st s) (ha : TxOk a) (l : LstAt s.heap b us) (q : RepL X.gc g s.heap xs us) (e : strsOf xs = some ys)
    (hz : (ys.map (·.length)).sum + ys.length * a.length ≤ LIM) (h : PostV X g st s (.str (joinX a ys)) false Q) : wpAny (model X.gc.P X.gc.w) X.A (call (.builtin "str.join") [.str (tx a) t, .ref b]) Q E s := by
  obtain ⟨l2, e2, e3, e4, e5⟩ := strsOf_are e q
  subst e2
  have hl : (l2.map (·.1)).map (·.length) = ys.map (·.length) := by
    rw [e3, List.map_map]
    exact List.map_congr_left fun y _ => tx_len y
  have hn : l2.length = ys.length := by
    have := congrArg List.length e3
    simpa using this
  have fit : tooLong ((l2.map (·.1)).toArray.foldl (· + ·.length + (tx a).length) 0) = false := by
    have h1 := sum_fold (tx a).length (l2.map (·.1)) 0
    rw [List.foldl_toArray]
    refine Eq.trans (congrArg tooLong h1) ?_
    rw [hl, tx_len, List.length_map, hn]
    unfold tooLong
    rw [LIM_eq]
    exact decide_eq_false (by omega)
  have ok : TxOk (joinX a ys) := ⟨Nat.le_trans (joinX_len a ys) hz, fun c hc => (joinX_mem a ys c hc).elim (ha.2 c) fun ⟨y, hy, hc⟩ => (e5 y hy).2 c hc⟩
  have new : (tx (joinX a ys)).length ≤ sizeLine ∧ Q (.str (tx (joinX a ys)) s.toks) { s with toks := s.toks + 1 } := ⟨by rw [tx_len, LIM_eq]; exact ok.1, r.str ok h⟩
  have gl : glued (tx a) (l2.map (·.1)) = tx (joinX a ys) := by rw [e3, glued_tx]
  refine call_meets F.slot_str_join (typeIs_str _ _ _) F.entry_str_join (F.args_str_join_2 _ _) (meets_str_join_list (tx a) t b l2 fit) ⟨isList_of l, ?_⟩
  match l2, gl, e3, e4 with
  | [], gl, _, _ =>
    show Made.post (.str (glued (tx a) [])) _ s
    rw [show glued (tx a) [] = tx (joinX a ys) from gl]
    exact new
  | [p], _, e3, e4 =>
    have e7 : ys.length = 1 := by simpa using (congrArg List.length e3).symm
    obtain ⟨y, rfl⟩ := List.length_eq_one_iff.mp e7
    have e6 : p.1 = tx y := by simpa using e3
    show Q (.str p.1 p.2) s
    rw [e6]
    exact r.val (v := .str y) (by simp only [Rep]; exact ⟨p.2, rfl, e4 p y (List.mem_singleton.mpr rfl) e6, e5 y (List.mem_singleton.mpr rfl)⟩) h
  | p :: p2 :: r2, gl, _, _ =>
    show Made.post (.str (glued (tx a) ((p :: p2 :: r2).map (·.1)))) _ s
    rw [gl]
    exact new

theorem pre_iff (a b : Tx) : Txt.startswith (tx a) (tx b) = b.isPrefixOf a := by
  rw [Bool.eq_iff_iff, List.isPrefixOf_iff_prefix, List.prefix_iff_eq_take]
  unfold Txt.startswith
  rw [StrLaws.subAt_eq, tx_cps, tx_cps, tx_len, tx_len, Bool.and_eq_true, decide_eq_true_eq, beq_iff_eq, List.drop_zero]
  constructor
  · exact fun h => h.2.symm
  · refine fun h => ⟨?_, h.symm⟩
    have := congrArg List.length h
    rw [List.length_take] at this
    omega

theorem dget_rep {gc : GC} {h : Heap} {k : Tx} {x : AV} {d : Value} (rx : Rep gc g h x d) : ∀ {kt : List Tx} {vs : List AV} {us : List Value}, kt.length = us.length → RepL gc g h vs us →
    Rep gc g h (dgetX (kt.map .str) vs k x) ((valueAt ((kt.map tx).zip us) (tx k)).getD d)
  | [], vs, us, _, _ => by cases vs <;> exact rx
  | a :: kt, vs, [], l, _ => by simp at l
  | a :: kt, [], u :: us, _, r => by simp [RepL] at r
  | a :: kt, v :: vs, u :: us, l, r => by
    simp only [RepL] at r
    obtain ⟨u', us', e, r1, r2⟩ := r
    cases e
    rw [List.map_cons, List.map_cons, List.zip_cons_cons, valueAt_cons, dgetX]
    by_cases h : a = k
    · rw [if_pos h, if_pos (by rw [h])]; exact r1
    · rw [if_neg h, if_neg (fun z => h (tx_inj z))]
      exact dget_rep rx (by simpa using l) r2
theorem dget_ok {ks vs : List AV} {k x : Tx} {us : List Value} (r : SR X g st s) (rv : RepB X g s.heap (.dct ks vs) u) (ra : RepBL X g s.heap [.str k, .str x] us) (h : PostV X g st s (dgetX ks vs k (.str x)) false Q) :
    ∃ a, u = .ref a ∧ s.TypeIs u "dict" ∧ (∀ o, s.heap.get? a = some o → o.dict = none) ∧ wpAny (model X.gc.P X.gc.w) X.A (call (.builtin "dict.get") (u :: us)) Q E s := by
  simp only [RepB, Rep] at rv
  obtain ⟨a, kt, ws, rfl, f, ne, rfl, nd, l, d, q⟩ := rv
  obtain ⟨u1, q1, rfl, r1, u2, q2, rfl, r2, rfl⟩ := ra
  simp only [RepB] at r1 r2
  have r2' := r2
  simp only [Rep] at r1 r2
  obtain ⟨t1, rfl, _⟩ := r1
  refine ⟨a, rfl, d.typeIs, fun o e => ?_, ?_⟩
  · obtain ⟨o2, es, ep, e2, ex, _⟩ := d
    rw [e] at e2; cases e2
    exact ex.2.1
  · refine call_meetsIn F.slot_dict_get d.typeIs F.entry_dict_get (F.args_dict_get_3 _ _ _) (meets_dict_get_default (strKind X.gc.P X.gc.w) a (k := tx k) (by simp [PySem.strKind, PySem.Value.isStrOf]) ne _) ⟨_, d.mapOf, ?_⟩
    obtain ⟨rr, ff⟩ := r.tok (k := s.toks + 1) (Nat.le_succ _)
    exact h g _ _ rr ff (dget_rep r2' l q)
theorem bmeth_ok {m : BM} {v : AV} {a0 : Tx} {as : List AV} {us : List Value} {z : AV × Bool} (hv : v = .str a0) (r : SR X g st s) (rv : RepB X g s.heap v u) (ra : RepBL X g s.heap as us) (e : bmeth m v as = some z) (h : PostV X g st s z.1 z.2 Q) :
    s.TypeIs u "str" ∧ (∀ a, u = .ref a → False) ∧ wpAny (model X.gc.P X.gc.w) X.A (call (.builtin (bmId m)) (u :: us)) Q E s := by
  unfold bmeth at e
  split at e
  case h_1 a xs =>
    unfold joinO at e
    obtain ⟨ys, e1, e⟩ := Option.bind_eq_some_iff.mp e
    rw [grd_eq] at e
    split at e
    · rename_i hz
      cases e
      simp only [RepB, Rep] at rv
      obtain ⟨t, rfl, k, o⟩ := rv
      obtain ⟨u2, q, rfl, ra, rfl⟩ := ra
      obtain ⟨b, us, rfl, l, q, _⟩ := ra
      exact ⟨typeIs_str _ _ _, (fun _ z => by cases z), join_ok r o l q e1 hz h⟩
    · cases e
  case h_2 a b =>
    cases e
    simp only [RepB, Rep] at rv
    obtain ⟨t, rfl, k, o⟩ := rv
    obtain ⟨u2, q, rfl, ra, rfl⟩ := ra
    simp only [RepB, Rep] at ra
    obtain ⟨t2, rfl, k2, o2⟩ := ra
    refine ⟨typeIs_str _ _ _, (fun _ z => by cases z), SC.startswith ?_⟩
    rw [pre_iff]
    exact r.bl h
  case h_3 a o n =>
    rw [grd_eq] at e
    split at e
    · rename_i hz
      cases e
      simp only [RepB, Rep] at rv
      obtain ⟨t, rfl, k, oa⟩ := rv
      obtain ⟨u2, q, rfl, ra, u3, q2, rfl, rb, rfl⟩ := ra
      simp only [RepB, Rep] at ra rb
      obtain ⟨t2, rfl, k2, o2⟩ := ra
      obtain ⟨t3, rfl, k3, o3⟩ := rb
      exact ⟨typeIs_str _ _ _, (fun _ z => by cases z), replace_ok r oa o2 o3 k k2 k3 hz.1 hz.2 h⟩
    · cases e
  case h_4 => cases hv
  case h_5 => cases e
end
end Q
end

section
set_option Elab.async false
set_option linter.all false
set_option maxRecDepth 100000
/-! Core8: subscripts, slices, changeable lists. -/
namespace Q
open PySem PySem.Spec PyProof.Rows PySem.Builtin

section
variable {X : Fx} {g g' : Gh} {st st' : S} {s s' : Shared} {u w : Value} {Q : Value → Shared → Prop} {E : Value → Shared → Prop}

theorem idx_of {n : Nat} {i : Int} {j : Nat} (e : ixX n i = some j) : seqIndex? i n = some j ∧ j < n := by
  unfold ixX at e
  by_cases h : 0 ≤ i
  · rw [if_pos h] at e
    split at e
    · rename_i h2
      cases e
      refine ⟨?_, by omega⟩
      have e0 : ¬ i < 0 := by omega
      simp only [seqIndex?, if_neg e0]
      rw [if_pos (by simp; omega)]
    · cases e
  · rw [if_neg h] at e
    split at e
    · rename_i h2
      cases e
      exact ⟨seqIndex_neg (by omega) h2, by omega⟩
    · cases e
theorem atX_ix {α : Type} {xs : List α} {i : Int} {x : α} (e : atX xs i = some x) : ∃ j, ixX xs.length i = some j ∧ xs[j]? = some x := by
  unfold atX at e
  unfold ixX
  by_cases h : 0 ≤ i
  · rw [if_pos h] at e ⊢
    have := (List.getElem?_eq_some_iff.mp e).1
    exact ⟨i.toNat, if_pos (by omega), e⟩
  · rw [if_neg h] at e ⊢
    split at e
    · rename_i h2
      exact ⟨_, if_pos h2, e⟩
    · cases e
theorem ixX_small {n : Nat} {i : Int} {j : Nat} (hn : n ≤ LIM) (e : ixX n i = some j) : -(2 ^ 63) ≤ i ∧ i < 2 ^ 63 := by
  have hL : LIM = 16777216 := rfl
  unfold ixX at e
  by_cases h : 0 ≤ i
  · rw [if_pos h] at e
    split at e
    · constructor <;> omega
    · cases e
  · rw [if_neg h] at e
    split at e
    · constructor <;> omega
    · cases e

/-- no slice -/
def noSlice : Expr → Bool
  | .Slice _ _ _ _ => false
  | _ => true
theorem subscripted_plain {slice : Expr} (hs : noSlice slice = true) (o i : Value) : subscripted slice false o i = operate [o, i] (getItem o i) := by
  cases slice <;> first | rfl | cases hs

/-- the item of a list -/
theorem lst_item {value slice : Expr} {a : Addr} {us : List Value} {i : Int} {t : Tok} {y : Value} {j : Nat} (hs : noSlice slice = true) (l : LstAt s.heap a us) (e : ixX us.length i = some j) (ey : us[j]? = some y) (h : Q y s) :
    wpAny (model X.gc.P X.gc.w) X.A (subscriptTail value slice (.ref a) (.int i t)) Q E s := by
  have hz := ixX_small l.1 e
  have e0 := e
  unfold ixX at e
  by_cases h0 : 0 ≤ i
  · rw [if_pos h0] at e
    split at e
    · cases e
      exact item_listR (isList_of l) h0 hz.2 (by simpa using ey) h (subscripted_plain hs _ _)
    · cases e
  · rw [if_neg h0] at e
    split at e
    · rename_i h2
      cases e
      refine subscriptTail_builtinR (isList_of l).typeIs slot_list_getitem.lookup (wpAny_getItem_list_neg (Q := fun r s' => r = y ∧ Q r s') (isList_of l) (by omega) (by rw [List.size_toArray]; exact h2) hz.1 ?_ ⟨rfl, h⟩) (subscripted_plain hs _ _)
      rw [List.size_toArray]
      simpa using ey
    · cases e
theorem seqItem_str {value slice : Expr} {x : Tx} {t t2 : Tok} {i : Int} {c : Nat} (hs : noSlice slice = true) (hz : x.length ≤ LIM) (e : atX x i = some c) (h : Q (.str (tx [c]) s.toks) { s with toks := s.toks + 1 }) :
    wpAny (model X.gc.P X.gc.w) X.A (subscriptTail value slice (.str (tx x) t) (.int i t2)) Q E s := by
  obtain ⟨j, e1, e2⟩ := atX_ix e
  have h1 := ixX_small hz e1
  refine tail_any (typeIs_str _ _ _) F.slot_str_getitem.lookup (PySem.P.getItem_str (c := c) ?_ ?_ h) (subscripted_plain hs _ _)
  · have : ¬ i < -(2 ^ 63 : Int) := by omega
    have h3 : ¬ i ≥ 2 ^ 63 := by omega
    rw [decide_eq_false this, decide_eq_false h3]; rfl
  · rw [tx_len, (idx_of e1).1]
    show (tx x).cps[j]? = some c
    simpa [tx] using e2

theorem ix_ok {value slice : Expr} {a b z : AV} (hs : noSlice slice = true) (r : SR X g st s) (ra : RepB X g s.heap a u) (rb : RepB X g s.heap b w) (e : ixV a b st.hp = some z) (h : PostV X g st s z false Q) :
    wpAny (model X.gc.P X.gc.w) X.A (subscriptTail value slice u w) Q E s := by
  unfold ixV at e
  split at e
  case h_1 xs i =>
    obtain ⟨p, us, rfl, l, q, _⟩ := ra
    simp only [RepB, Rep] at rb
    obtain ⟨t, rfl⟩ := rb
    obtain ⟨j, e1, e2⟩ := atX_ix e
    obtain ⟨y, e3, ry⟩ := q.get e2
    exact lst_item hs l (by rw [q.length]; exact e1) e3 (r.val ry h)
  case h_2 xs i =>
    simp only [RepB, Rep] at ra rb
    obtain ⟨p, us, rfl, _, l, q⟩ := ra
    obtain ⟨t, rfl⟩ := rb
    obtain ⟨j, e1, e2⟩ := atX_ix e
    obtain ⟨y, e3, ry⟩ := q.get e2
    have e1' : ixX us.length i = some j := by rw [q.length]; exact e1
    have hz := ixX_small l.1 e1'
    refine tail_any l.2.1.typeIs slot_tuple_getitem.lookup (PyProof.Rows.getItem_tuple l.2.1 hz.1 hz.2 (j := j) ?_ (x := y) ?_ (r.val ry h)) (subscripted_plain hs _ _)
    · rw [List.size_toArray]; exact (idx_of e1').1
    · simpa using e3
  case h_3 x i =>
    obtain ⟨c, e1, rfl⟩ := Option.map_eq_some_iff.mp e
    simp only [RepB, Rep] at ra rb
    obtain ⟨t, rfl, k, o⟩ := ra
    obtain ⟨t2, rfl⟩ := rb
    refine seqItem_str hs o.1 e1 (r.str ⟨by show 1 ≤ LIM; decide, fun d hd => ?_⟩ h)
    rw [List.mem_singleton.mp hd]
    obtain ⟨j, _, e2⟩ := atX_ix e1
    exact o.2 _ (List.mem_of_getElem? e2)
  case h_4 k i =>
    simp only [RepB, Rep] at ra rb
    obtain ⟨p, ep, rfl⟩ := ra
    obtain ⟨t2, rfl⟩ := rb
    unfold ixH at e
    split at e
    · rename_i xs ex
      obtain ⟨e1, us, l, q⟩ : CellR X.gc g s.heap (.lst xs) p := r.gh.cell _ p _ ep ex
      obtain ⟨j, e1, e2⟩ := atX_ix e
      obtain ⟨y, e3, ry⟩ := q.get e2
      exact lst_item hs l (by rw [q.length]; exact e1) e3 (r.val ry h)
    · cases e
  case h_5 => cases e

/-! ### slices -/
def partOf : AV → Option Int
  | .int i => some i
  | _ => none
theorem clamp_eq {n d a : Nat} {v : AV} (e : clampX n d v = some a) : a = HT.sIx n d (partOf v) := by
  cases v <;> first | (cases e; rfl) | cases e
theorem isPart_of {n d a : Nat} {v : AV} {u : Value} (e : clampX n d v = some a) (r : RepB X g s.heap v u) : IsPart u (partOf v) := by
  cases v <;> first
    | cases e; done
    | (simp only [RepB, Rep] at r; subst r; exact .none)
    | (simp only [RepB, Rep] at r; obtain ⟨t, rfl⟩ := r; exact .int _ t)
theorem cutX_some {α : Type} {xs : List α} {l h : AV} {z : List α} (e : cutX xs l h = some z) : ∃ a b, clampX xs.length 0 l = some a ∧ clampX xs.length xs.length h = some b ∧ z = (xs.drop a).take (b - a) := by
  unfold cutX at e
  split at e
  · rename_i a b e1 e2
    cases e
    exact ⟨a, b, e1, e2, rfl⟩
  · cases e
theorem clamp_n {n d : Nat} {v : AV} {m : Nat} (h : m = n) : clampX n d v = clampX m d v := by rw [h]

theorem sl_ok {value : Expr} {lo hi : Option Expr} {p2 : Pos} {a l h : AV} {ul uh : Value} {z : AV × Bool} (r : SR X g st s) (ra : RepB X g s.heap a u) (rl : RepB X g s.heap l ul) (rh : RepB X g s.heap h uh) (e : slV a l h = some z)
    (hq : PostV X g st s z.1 z.2 Q) :
    wpAny (model X.gc.P X.gc.w) X.A (subscriptTail value (.Slice lo hi none p2) u (.ref s.heap.objs.size)) Q E { s with heap := s.heap.push { cls := .type "slice", data := .fields #[ul, uh, .none] } } := by
  have kp : ∀ b o, s.heap.get? b = some o → (s.heap.push { cls := .type "slice", data := .fields #[ul, uh, .none] }).get? b = some o := fun b o e => Heap.get?_push_of_some _ e
  obtain ⟨r1, f1⟩ := r.ext (k := s.toks) kp (Nat.le_refl _)
  have hsl : ({ s with heap := s.heap.push { cls := .type "slice", data := .fields #[ul, uh, .none] } } : Shared).heap.IsSliceOf s.heap.objs.size ul uh .none := ⟨_, Heap.get?_push_size _ rfl, rfl, rfl⟩
  have hq1 : PostV X g st { s with heap := s.heap.push { cls := .type "slice", data := .fields #[ul, uh, .none] } } z.1 z.2 Q := fun g' s' y a b c => by
    refine hq g' s' y a (f1.trans b) ?_
    cases hz : z.2 with
    | false => rw [hz] at c; exact c
    | true =>
      rw [hz] at c
      obtain ⟨p, xs, us, e1, e2, e3, e4, e5, e6, e7, e8, e9⟩ := c
      exact ⟨p, xs, us, e1, e2, e3, e4, e5, e6, e7, f1.kp.none e8, e9⟩
  have ra1 := ra.keep r f1
  have rl1 := rl.keep r f1
  have rh1 := rh.keep r f1
  generalize hs1 : ({ s with heap := s.heap.push { cls := .type "slice", data := .fields #[ul, uh, .none] } } : Shared) = s1 at *
  clear hq ra rl rh f1 kp
  unfold slV at e
  split at e
  case h_1 xs =>
    obtain ⟨zz, e1, rfl⟩ := Option.map_eq_some_iff.mp e
    obtain ⟨p, us, rfl, lt, q, _⟩ := ra1
    obtain ⟨i, j, c1, c2, rfl⟩ := cutX_some e1
    have hn := q.length
    refine tail_any (isList_of lt).typeIs slot_list_getitem.lookup (wpAny_getItem_list_slice (isList_of lt) hsl (isPart_of c1 rl1) (isPart_of c2 rh1) .none (by simp) ?_ (by rw [List.size_toArray, LIM_eq]; exact lt.1)) rfl
    rw [L2.slicePick_cut, hn, ← clamp_eq c1, ← clamp_eq c2]
    refine r1.newLst (k := s1.toks) ((q.drop i).take (j - i)) ?_ (Nat.le_refl _) hq1
    refine Nat.le_trans ?_ lt.1
    rw [List.length_take, List.length_drop]; omega
  case h_2 xs =>
    obtain ⟨zz, e1, e⟩ := Option.bind_eq_some_iff.mp e
    split at e
    · rename_i hlt
      cases e
      simp only [RepB, Rep] at ra1
      obtain ⟨p, us, rfl, _, lt, q⟩ := ra1
      obtain ⟨i, j, c1, c2, rfl⟩ := cutX_some e1
      have hn := q.length
      have hn2 : us.toArray.size = xs.length := by rw [List.size_toArray]; exact hn
      refine tail_any lt.2.1.typeIs slot_tuple_getitem.lookup (HT.getItem_tuple_cut lt.2.1 hsl (isPart_of c1 rl1) (isPart_of c2 rh1) ?_ ?_ (by rw [List.size_toArray, LIM_eq]; exact lt.1)) rfl
      · rw [hn2, ← clamp_eq c1, ← clamp_eq c2]
        rintro ⟨h1, h2⟩
        rw [h1, h2] at hlt
        simp at hlt
      · rw [hn2, ← clamp_eq c1, ← clamp_eq c2]
        refine r1.newTup (k := s1.toks) ((q.drop i).take (j - i)) ?_ (Nat.le_refl _) hq1
        exact Nat.le_trans (by rw [List.length_take, List.length_drop]; exact Nat.le_trans (Nat.min_le_right _ _) (Nat.sub_le _ _)) lt.1
    · cases e
  case h_3 x =>
    obtain ⟨zz, e1, rfl⟩ := Option.map_eq_some_iff.mp e
    simp only [RepB, Rep] at ra1
    obtain ⟨t, rfl, k, o⟩ := ra1
    obtain ⟨i, j, c1, c2, rfl⟩ := cutX_some e1
    obtain ⟨lv, hl1, hl2⟩ := L2.IsPart.raw (isPart_of c1 rl1)
    obtain ⟨uv, hu1, hu2⟩ := L2.IsPart.raw (isPart_of c2 rh1)
    obtain ⟨os, hos, hcs, hds⟩ := hsl
    refine tail_any (typeIs_str _ _ _) F.slot_str_getitem.lookup (wpAny_getItem_str_slice (l := lv) (u := uv) (st := none) ⟨os, hos, hcs, by rw [hds, hl1, hu1]; rfl⟩ rfl ?_) rfl
    have et := L2.sliceText_cut (tx x) (lv.map (·.1)) (uv.map (·.1))
    have e2 : L2.cutS (tx x) (lv.map (·.1)) (uv.map (·.1)) = tx ((x.drop i).take (j - i)) := by
      unfold L2.cutS
      rw [hl2, hu2, tx_cps, tx_len, ← clamp_eq c1, ← clamp_eq c2]
      rfl
    rw [e2] at et
    have ok : TxOk ((x.drop i).take (j - i)) := o.sub (by rw [List.length_take, List.length_drop]; omega) fun c hc => List.mem_of_mem_drop (List.mem_of_mem_take hc)
    unfold PySem.StrLaws.sliceText at et
    unfold sliceMade slicePicked
    by_cases c : ((1 : Int) == 1 && (Builtin.Str.strSliceIndices (lv.map (·.1)) (uv.map (·.1)) 1 (tx x).length).length == (tx x).length) = true
    · rw [if_pos c] at et
      refine Eq.mp (congrArg (fun m => Made.post m Q s1) (if_pos c).symm) ?_
      exact r1.val (v := .str x) (by simp only [Rep]; exact ⟨t, rfl, k, o⟩) (tx_inj et ▸ hq1)
    · rw [if_neg c] at et
      refine Eq.mp (congrArg (fun m => Made.post m Q s1) (if_neg c).symm) ?_
      refine Eq.mp (congrArg (fun m => Made.post (.str m) Q s1) et.symm) ?_
      exact ⟨by rw [tx_len, LIM_eq]; exact ok.1, r1.str ok hq1⟩
  case h_4 => cases e
end
end Q
end

section
set_option Elab.async false
set_option linter.all false
set_option maxRecDepth 100000
/-! Core9: stores, changes of lists. -/
namespace Q
open PySem PySem.Spec PyProof.Rows PySem.Builtin

theorem nodup_at {α : Type} : ∀ {l : List α}, l.Nodup → ∀ {i j : Nat} {x : α}, l[i]? = some x → l[j]? = some x → i = j
  | [], _, i, j, x, a, _ => by simp at a
  | y :: l, hN, i, j, x, a, b => by
    have h := List.nodup_cons.mp hN
    cases i with
    | zero =>
      cases j with
      | zero => rfl
      | succ j =>
        have a : y = x := by simpa using a
        exact absurd (List.mem_of_getElem? (i := j) (a := x) (by simpa using b)) (a ▸ h.1)
    | succ i =>
      cases j with
      | zero =>
        have b : y = x := by simpa using b
        exact absurd (List.mem_of_getElem? (i := i) (a := x) (by simpa using a)) (b ▸ h.1)
      | succ j =>
        have : i = j := nodup_at (x := x) h.2 (by simpa using a) (by simpa using b)
        rw [this]
theorem fm_at {l : List (Addr × Option Addr)} (hN : (l.filterMap (·.2)).Nodup) : ∀ {i j : Nat} {p q : Addr × Option Addr} {b : Addr}, l[i]? = some p → l[j]? = some q → p.2 = some b → q.2 = some b → i = j := by
  induction l with
  | nil => intro i j p q b e1; simp at e1
  | cons x r ih =>
    intro i j p q b e1 e2 h1 h2
    have hr : (r.filterMap (·.2)).Nodup := by
      rw [List.filterMap_cons] at hN
      split at hN
      · exact hN
      · exact (List.nodup_cons.mp hN).2
    have hx : ∀ (z : Addr × Option Addr) (k : Nat), x.2 = some b → r[k]? = some z → z.2 = some b → False := fun z k hx hz hb => by
      rw [List.filterMap_cons, hx] at hN
      exact (List.nodup_cons.mp hN).1 (List.mem_filterMap.mpr ⟨z, List.mem_of_getElem? hz, hb⟩)
    cases i with
    | zero =>
      cases j with
      | zero => rfl
      | succ j =>
        simp at e1 e2
        exact (hx q j (e1 ▸ h1) e2 h2).elim
    | succ i =>
      cases j with
      | zero =>
        simp at e1 e2
        exact (hx p i (e2 ▸ h2) e1 h1).elim
      | succ j => exact congrArg (· + 1) (ih hr (by simpa using e1) (by simpa using e2) h1 h2)
/-- no list -/
def NLst (o : Obj) : Prop := ¬ ∃ (us : Array Value) (n : Nat), o = { cls := .type "list", data := .seq us n }
theorem NLst.of {o : Obj} (h : o.cls ≠ .type "list") : NLst o := fun ⟨_, _, e⟩ => h (by rw [e])
theorem NLst.dict {o : Obj} {es : Array DictEntry} {ep : Nat} (h : o.data = .dict es ep) : NLst o := fun ⟨_, _, e⟩ => by rw [e] at h; cases h
/-- an object that no statement changes -/
structure Pin (X : Fx) (g : Gh) (s : Shared) (a : Addr) (o : Obj) : Prop where
  obj : s.heap.get? a = some o
  cls : NLst o
  fz : ¬ g.fz a
  mu : ¬ g.mu a
  loc : a ≠ X.env.locals
  cell : ∀ x c, X.env.cells.lookup x = some c → c ≠ a
  fr : a ∉ L2.frs X.stack
/-- what a statement may do -/
structure StE (X : Fx) (g : Gh) (s : Shared) (g' : Gh) (s' : Shared) : Prop where
  os : s'.os = s.os
  mono : GMono g g' s.heap s'.heap
  keep : ∀ a o, (∃ o0, X.h0.get? a = some o0) → s.heap.get? a = some o → ¬ g.mu a → a ∉ L2.frs X.stack → s'.heap.get? a = some o
  slot : ∀ a o, (∃ o0, X.h0.get? a = some o0) → s.heap.get? a = some o → ¬ g.mu a → ∃ sl, s'.heap.get? a = some { o with slots := sl }
  there : ∀ a o, s.heap.get? a = some o → ∃ o', s'.heap.get? a = some o'
  fzNew : ∀ a, g'.fz a → g.fz a ∨ X.h0.get? a = none
  th : ∃ more, g'.th = g.th ++ more ∧ ∀ p ∈ more, Nw X.h0 p
  toks : s.toks ≤ s'.toks
  pin : ∀ a o, Pin X g s a o → Pin X g' s' a o

section
variable {X : Fx} {g g' g'' : Gh} {st st' st'' : S} {s s' s'' : Shared} {u w : Value} {Q : Unit → Shared → Prop} {E : Value → Shared → Prop} {a : Addr} {i j : Nat}
theorem StE.refl : StE X g s g s := ⟨rfl, GMono.refl, fun _ _ _ e _ _ => e, fun _ o _ e _ => ⟨o.slots, e⟩, fun _ o e => ⟨o, e⟩, fun _ e => .inl e, ⟨[], by simp, fun _ h => nomatch h⟩, Nat.le_refl _, fun _ _ p => p⟩
theorem StE.mu (f : StE X g s g' s') {a : Addr} {o : Obj} (h : X.h0.get? a = some o) (q : g'.mu a) : g.mu a := by
  obtain ⟨m, e, hm⟩ := f.th
  exact mut_of e hm h q
theorem StE.trans (f : StE X g s g' s') (k : StE X g' s' g'' s'') : StE X g s g'' s'' where
  os := k.os.trans f.os
  mono := f.mono.trans k.mono
  keep a o h e n nf := k.keep a o h (f.keep a o h e n nf) (fun z => let ⟨_, h⟩ := h; n (f.mu h z)) nf
  slot a o h e n := by
    obtain ⟨sl, e1⟩ := f.slot a o h e n
    obtain ⟨sl2, e2⟩ := k.slot a _ h e1 fun z => let ⟨_, h⟩ := h; n (f.mu h z)
    exact ⟨sl2, e2⟩
  there a o e := let ⟨o1, e1⟩ := f.there a o e; k.there a o1 e1
  fzNew a e := by
    rcases k.fzNew a e with h | h
    · exact f.fzNew a h
    · exact .inr h
  th := by
    obtain ⟨m, e, hm⟩ := f.th
    obtain ⟨n, e2, hn⟩ := k.th
    exact ⟨m ++ n, by rw [e2, e, List.append_assoc], fun p hp => (List.mem_append.mp hp).elim (hm p) (hn p)⟩
  toks := Nat.le_trans f.toks k.toks
  pin a o p := k.pin a o (f.pin a o p)
theorem lst_cls {h : Heap} {us : List Value} {o : Obj} (l : LstAt h a us) (e : h.get? a = some o) : ∃ (us : Array Value) (n : Nat), o = { cls := .type "list", data := .seq us n } := by
  obtain ⟨_, n, e2⟩ := l
  rw [e] at e2
  exact ⟨_, n, Option.some.inj e2⟩
theorem FrE.pin (r : SR X g st s) (f : FrE X g st s g' st' s') {o : Obj} (p : Pin X g s a o) : Pin X g' s' a o where
  obj := f.kp.keep a o p.obj p.mu p.fr
  cls := p.cls
  fz z := by
    rcases f.fzNew a z with h | h | ⟨i, v, ei, a0⟩
    · exact p.fz h
    · rw [p.obj] at h; cases h
    · obtain ⟨u0, a1, b, xs, us, rfl, _, l, q, nf, nm, hlo⟩ := r.slot i _ _ ei a0.vis
      have := a1.inj a0
      cases this
      exact p.cls (lst_cls l p.obj)
  mu z := by
    obtain ⟨m, e, hm⟩ := f.th
    exact p.mu (mut_of e hm p.obj z)
  loc := p.loc
  cell := p.cell
  fr := p.fr
theorem FrE.toSt (r : SR X g st s) (f : FrE X g st s g' st' s') : StE X g s g' s' where
  os := f.os
  mono := f.mono r
  keep a o _ e n nf := f.kp.keep a o e n nf
  slot a o _ e n := f.kp.slot a o e n
  there := f.kp.there
  fzNew a e := by
    rcases f.fzNew a e with h | h | ⟨i, v, ei, a0⟩
    · exact .inl h
    · exact .inr (r.h0none h)
    · obtain ⟨u0, a1, b, xs, us, rfl, _, l, q, nf, nm, hlo⟩ := r.slot i _ _ ei a0.vis
      have := a1.inj a0
      cases this
      exact .inr hlo
  th := let ⟨m, e, hm⟩ := f.th; ⟨m, e, fun p hp b q => r.h0none (hm p hp b q)⟩
  toks := f.toks
  pin a o p := f.pin r p

theorem put_len (st : S) (i : Nat) (v : AV) (o : Bool) : (st.put i v o).sl.length = st.sl.length := by simp [S.put]

/-- one object that belongs to the frame is changed, one slot -/
theorem SR.put {v : AV} {own : Bool} {h' : Heap} {k : Nat} (r : SR X g st s) (hs : Heap.SameBut a s.heap h') (ha : a = X.env.locals ∨ ∃ x, X.env.cells.lookup x = some a) (hlo : X.h0.get? a = none)
    (hk : s.toks ≤ k) (hns : ∃ m, h'.Ns X.env.locals m) (hcell : ∀ x c, X.env.cells.lookup x = some c → ∃ v, h'.IsCell c v) (hfun : h'.FunFrames X.gc.base X.stack)
    (hback : ∀ j w, j ≠ i → At X s j w → At X { s with heap := h', toks := k } j w) (hat : At X { s with heap := h', toks := k } i u) (hsv : SlotV X g s.heap v own u)
    (hd : own = true → ∀ j w, j ≠ i → st.get j = some (w, true) → At X s j u → False) (hi : i < st.sl.length) :
    SR X g (st.put i v own) { s with heap := h', toks := k } ∧ StE X g s g { s with heap := h', toks := k } := by
  have nfz : ¬ g.fz a := by
    rcases ha with rfl | ⟨x, e⟩
    · exact r.fzL
    · exact r.fzC x a e
  have nmu : ¬ g.mu a := by
    rcases ha with rfl | ⟨x, e⟩
    · exact r.muL
    · exact r.muC x a e
  have hin : ∃ o, s.heap.get? a = some o := by
    rcases ha with rfl | ⟨x, e⟩
    · exact r.locIn
    · exact r.cellIn e
  have keep : ∀ b o, b ≠ a → s.heap.get? b = some o → h'.get? b = some o := fun b o n e => (hs.2 b n).trans e
  have mono : GMono g g s.heap h' := ⟨fun b o f e => keep b o (fun z => nfz (z ▸ f)) e, fun _ e => e, ⟨[], by simp⟩, fun _ _ e => e⟩
  have there : ∀ b o, s.heap.get? b = some o → ∃ o', h'.get? b = some o' := fun b o e => by
    by_cases hb : b = a
    · subst hb
      rcases ha with rfl | ⟨x, e⟩
      · obtain ⟨m, o, _, _, e, _⟩ := hns
        exact ⟨o, e⟩
      · obtain ⟨w, o, e1, _⟩ := hcell x b e
        exact ⟨o, e1⟩
    · exact ⟨o, keep b o hb e⟩
  have h0ne : ∀ b, (∃ o, X.h0.get? b = some o) → b ≠ a := fun b h z => some_ne h (z ▸ hlo)
  have gh : GhOk X.gc g st.hp { s with heap := h', toks := k } := by
    refine ⟨fun b f => let ⟨o, e⟩ := r.gh.fzIn b f; there b o e, r.gh.thNd, r.gh.thFz, fun b f => let ⟨o, e⟩ := r.gh.thIn b f; there b o e, r.gh.thB, r.gh.len, fun i p v e1 e2 => ?_, r.gh.tk0, fun t x e => Nat.lt_of_lt_of_le (r.gh.tkLt t x e) hk, Nat.lt_of_lt_of_le r.gh.tkPos hk⟩
    have q := r.gh.cell i p v e1 e2
    cases v with
    | lst xs =>
      obtain ⟨e, us, l, rr⟩ := q
      have hm : g.mu p.1 := ⟨p, List.mem_of_getElem? e1, e⟩
      exact ⟨e, us, l.mono fun o z => keep _ o (fun z => nmu (z ▸ hm)) z, RepL.mono mono rr⟩
    | non => trivial
    | _ => exact q
  have lstNe : ∀ {b us}, LstAt s.heap b us → X.h0.get? b = none → b ≠ a := fun {b us} l hb z => by
    obtain ⟨n1, n2, n3⟩ := r.lstFr l hb
    rcases ha with h | ⟨x, e⟩
    · exact n1 (z.trans h)
    · exact n2 x a e z.symm
  have backA : ∀ j v o w, j ≠ i → st.get j = some (v, o) → At X { s with heap := h', toks := k } j w → At X s j w := fun j v o w hj e q => by
    obtain ⟨u0, a0, _⟩ := r.slot j v o e q.vis
    exact ((hback j u0 hj a0).inj q) ▸ a0
  refine ⟨⟨r.ok, r.bare, fun b o e => keep b o (h0ne b (r.ok.loB b o e)) (r.base b o e), fun b o e => keep b _ (h0ne b ⟨o, e⟩) (r.ent b o e).choose_spec |> fun z => ⟨_, z⟩, hfun, hns, hcell, gh, r.fzL, r.fzC, r.fzF, r.muL, r.muC, r.muF, fun j w o e hv => ?_, fun j1 j2 w1 w2 z e1 e2 a1 a2 => ?_, (put_len _ _ _ _).trans r.len, fun L hL => ?_⟩, ?_⟩
  · rw [get_put] at e
    by_cases hj : j = i
    · rw [if_pos ⟨hj, hi⟩] at e
      cases e
      subst hj
      refine ⟨u, hat, ?_⟩
      cases own with
      | false => exact Rep.mono mono hsv
      | true =>
        obtain ⟨b, xs, us, e1, e2, l, q, nf, nm, hlo2⟩ := hsv
        exact ⟨b, xs, us, e1, e2, l.mono fun o z => keep _ o (lstNe l hlo2) z, RepL.mono mono q, nf, nm, hlo2⟩
    · rw [if_neg (fun z => hj z.1)] at e
      obtain ⟨u0, a0, sv⟩ := r.slot j w o e hv
      refine ⟨u0, hback j u0 hj a0, ?_⟩
      cases o with
      | false => exact Rep.mono mono sv
      | true =>
        obtain ⟨b, xs, us, e1, e2, l, q, nf, nm, hlo2⟩ := sv
        exact ⟨b, xs, us, e1, e2, l.mono fun o z => keep _ o (lstNe l hlo2) z, RepL.mono mono q, nf, nm, hlo2⟩
  · rw [get_put] at e1 e2
    by_cases h1 : j1 = i
    · by_cases h2 : j2 = i
      · rw [h1, h2]
      · rw [if_pos ⟨h1, hi⟩] at e1
        rw [if_neg (fun z => h2 z.1)] at e2
        have ho : own = true := by cases e1; rfl
        subst h1
        have := a1.inj hat
        subst this
        exact (hd ho j2 w2 h2 e2 (backA _ _ _ _ h2 e2 a2)).elim
    · by_cases h2 : j2 = i
      · rw [if_neg (fun z => h1 z.1)] at e1
        rw [if_pos ⟨h2, hi⟩] at e2
        have ho : own = true := by cases e2; rfl
        subst h2
        have := a2.inj hat
        subst this
        exact (hd ho j1 w1 h1 e1 (backA _ _ _ _ h1 e1 a1)).elim
      · rw [if_neg (fun z => h1 z.1)] at e1
        rw [if_neg (fun z => h2 z.1)] at e2
        exact r.dist j1 j2 w1 w2 z e1 e2 (backA _ _ _ _ h1 e1 a1) (backA _ _ _ _ h2 e2 a2)
  · obtain ⟨m, o, es, ep, e1, d, rest⟩ := r.frD L hL
    by_cases hLa : L = a
    · rcases ha with h | ⟨x, e⟩
      · rw [hLa, h]; exact hns
      · obtain ⟨w, o2, e2, d2⟩ := r.cell x a e
        rw [hLa, e2] at e1; cases e1
        rw [d2] at d; cases d
    · exact ⟨m, o, es, ep, keep L o hLa e1, d, rest⟩
  · exact ⟨rfl, mono, fun b o h e _ _ => keep b o (h0ne b h) e, fun b o h e _ => ⟨o.slots, keep b o (h0ne b h) e⟩, there, fun _ e => .inl e, ⟨[], by simp, fun _ h => nomatch h⟩, hk, fun b o p => ⟨keep b o (fun z => by
      rcases ha with h | ⟨x, e⟩
      · exact p.loc (z.trans h)
      · exact p.cell x a e z.symm) p.obj, p.cls, p.fz, p.mu, p.loc, p.cell, p.fr⟩⟩

/-- a name that is stored to -/
def Own (X : Fx) (x : Str) : Prop := X.env.scope.names.lookup x = some .local ∨ (X.fn x = true ∧ X.env.scope.names.lookup x = some .cell)

theorem store_ok2 {M : Model} {A : Around} {v : AV} {own : Bool} {x : Str} (r : SR X g st s) (hi : X.N[i]? = some x) (hx : Own X x) (hsv : SlotV X g s.heap v own u)
    (hd : own = true → ∀ j w, j ≠ i → st.get j = some (w, true) → At X s j u → False)
    (h : ∀ s', SR X g (st.put i v own) s' → StE X g s g s' → (∃ a, Heap.SameBut a s.heap s'.heap ∧ (a = X.env.locals ∨ X.env.cells.lookup x = some a)) → Q () s') : wpAny M A (storeName X.env x u) Q E s := by
  obtain ⟨m, hn⟩ := id r.ns
  have hcls : (X.env.scope.kind == .class || (X.env.scope.kind == .module && X.env.locals != X.env.globals)) = false := by rw [r.ok.kind]; rfl
  have hil : i < st.sl.length := by rw [r.len]; exact (List.getElem?_eq_some_iff.mp hi).1
  rcases hx with hk | ⟨hfn, hk⟩
  · refine wpAny_storeName_local hk hn (fun h' hn' hs => ?_) hcls
    have cs : ∀ y c, X.env.cells.lookup y = some c → ∀ w, s.heap.IsCell c w → h'.IsCell c w := fun y c e w z => z.sameBut hs (r.ok.cne y c e)
    obtain ⟨r', f'⟩ := r.put (v := v) (own := own) (i := i) (u := u) (k := s.toks + 1) hs (.inl rfl) r.ok.loL (Nat.le_succ _) ⟨_, hn'⟩ (fun y c e => let ⟨w, z⟩ := r.cell y c e; ⟨w, cs y c e w z⟩) (r.funs.sameBut hs hn')
      (fun j w hj ⟨y, ey, hv, m1, n1, l1⟩ => by
        have em := Ns.inj hn n1
        subst em
        refine ⟨y, ey, hv, _, hn', ?_⟩
        rcases l1 with ⟨k, e⟩ | ⟨k, c, e, z⟩
        · refine .inl ⟨k, ?_⟩
          have : y ≠ x := fun e => hj (L2.nodup_ix r.ok.nd ey (e ▸ hi))
          simp [this, e]
        · exact .inr ⟨k, c, e, cs y c e _ z⟩)
      ⟨x, hi, .inl hk, _, hn', .inl ⟨hk, by simp⟩⟩ hsv hd hil
    exact h _ r' f' ⟨_, hs, .inl rfl⟩
  · obtain ⟨c, hc⟩ := r.ok.has x (.inl hk)
    obtain ⟨w', z⟩ := r.cell x c hc
    refine wpAny_storeName_cell r.ok.kind hk hc z (fun h' hc' hs => ?_)
    have hn' : h'.Ns X.env.locals m := hn.sameBut hs (Ne.symm (r.ok.cne x c hc))
    have cs : ∀ y c', c' ≠ c → X.env.cells.lookup y = some c' → ∀ w, s.heap.IsCell c' w → h'.IsCell c' w := fun y c' n e w z => z.sameBut hs n
    have hfun : h'.FunFrames X.gc.base X.stack := funs_slots r.funs fun L hL o e => by
      refine ⟨o.slots, (hs.2 L fun q => ?_).trans e⟩
      obtain ⟨m2, o2, es, ep, e2, d2, _⟩ := r.frD L hL
      obtain ⟨oc, ec, dc⟩ := id z
      rw [q, ec] at e2; cases e2
      rw [dc] at d2; cases d2
    obtain ⟨r', f'⟩ := r.put (v := v) (own := own) (i := i) (u := u) (k := s.toks) hs (.inr ⟨x, hc⟩) (r.ok.loC x c hfn hk hc) (Nat.le_refl _) ⟨_, hn'⟩ (fun y c' e => by
        by_cases hcc : c' = c
        · subst hcc; exact ⟨_, hc'⟩
        · obtain ⟨w2, z2⟩ := r.cell y c' e
          exact ⟨w2, cs y c' hcc e _ z2⟩) hfun
      (fun j w hj ⟨y, ey, hv, m1, n1, l1⟩ => by
        have em := Ns.inj hn n1
        subst em
        refine ⟨y, ey, hv, _, hn', ?_⟩
        rcases l1 with ⟨k, e⟩ | ⟨k, c', e, z⟩
        · exact .inl ⟨k, e⟩
        · refine .inr ⟨k, c', e, cs y c' ?_ e _ z⟩
          rintro rfl
          exact hj (L2.nodup_ix r.ok.nd ey (r.ok.inj _ _ _ e hc ▸ hi)))
      ⟨x, hi, .inr (.inl hk), m, hn', .inr ⟨.inl hk, c, hc, hc'⟩⟩ hsv hd hil
    exact h _ r' f' ⟨_, hs, .inr hc⟩

theorem store_ok {M : Model} {A : Around} {v : AV} {own : Bool} {x : Str} (r : SR X g st s) (hi : X.N[i]? = some x) (hx : Own X x) (hsv : SlotV X g s.heap v own u)
    (hd : own = true → ∀ j w, j ≠ i → st.get j = some (w, true) → At X s j u → False)
    (h : ∀ s', SR X g (st.put i v own) s' → StE X g s g s' → Q () s') : wpAny M A (storeName X.env x u) Q E s :=
  store_ok2 r hi hx hsv hd fun s' r' f' _ => h s' r' f'

/-- a changeable list is changed -/
theorem SR.mutRef {p : Addr × Option Addr} {xs ys : List AV} {us' : List Value} {h' : Heap} {k t : Nat} (r : SR X g st s) (ep : g.th[k]? = some p) (ex : st.hp[k]? = some (.lst xs)) (hs : Heap.SameBut p.1 s.heap h') (l : LstAt h' p.1 us') (q : RepL X.gc g s.heap ys us') (ht : s.toks ≤ t) :
    SR X g (st.hset k (.lst ys)) { s with heap := h', toks := t } ∧ FrE X g st s g (st.hset k (.lst ys)) { s with heap := h', toks := t } := by
  obtain ⟨e1, us, l0, q0⟩ : CellR X.gc g s.heap (.lst xs) p := r.gh.cell _ p _ ep ex
  have hm : g.mu p.1 := ⟨p, List.mem_of_getElem? ep, e1⟩
  have keep : ∀ b o, b ≠ p.1 → s.heap.get? b = some o → h'.get? b = some o := fun b o n e => (hs.2 b n).trans e
  have mono : GMono g g s.heap h' := ⟨fun b o f e => keep b o (fun z => r.gh.thFz _ hm (z ▸ f)) e, fun _ e => e, ⟨[], by simp⟩, fun _ _ e => e⟩
  have there : ∀ b o, s.heap.get? b = some o → ∃ o', h'.get? b = some o' := fun b o e => by
    by_cases hb : b = p.1
    · obtain ⟨_, n, z⟩ := l
      rw [hb]; exact ⟨_, z⟩
    · exact ⟨o, keep b o hb e⟩
  refine r.step (g' := g) (hp' := st.hp.set k (.lst ys)) (s' := { s with heap := h', toks := t }) rfl r.bare ⟨fun b o e n _ => keep b o (fun z => n (z ▸ hm)) e, fun b o e n => ⟨o.slots, keep b o (fun z => n (z ▸ hm)) e⟩, there⟩ (fun _ e => e) (fun _ e => .inl e) ⟨[], by simp, fun _ h => nomatch h⟩ (fun _ _ e => e) ht ?_
  refine ⟨fun b f => let ⟨o, e⟩ := r.gh.fzIn b f; there b o e, r.gh.thNd, r.gh.thFz, fun b f => let ⟨o, e⟩ := r.gh.thIn b f; there b o e, r.gh.thB, by rw [List.length_set]; exact r.gh.len, fun i p2 v e2 e3 => ?_, r.gh.tk0, fun t' x e => Nat.lt_of_lt_of_le (r.gh.tkLt t' x e) ht, Nat.lt_of_lt_of_le r.gh.tkPos ht⟩
  by_cases hik : i = k
  · subst hik
    rw [ep] at e2; cases e2
    rw [List.getElem?_set_self (List.getElem?_eq_some_iff.mp ex).1] at e3
    cases e3
    exact ⟨e1, us', l, RepL.mono mono q⟩
  · rw [List.getElem?_set_ne (fun z => hik z.symm)] at e3
    have q2 := r.gh.cell i p2 v e2 e3
    cases v with
    | lst zs =>
      obtain ⟨e4, ws, l4, q4⟩ := q2
      refine ⟨e4, ws, l4.mono fun o z => keep _ o (fun z => hik ?_) z, RepL.mono mono q4⟩
      exact fm_at r.gh.thNd e2 ep e4 (by rw [e1, z])
    | non => trivial
    | _ => exact q2

/-- a slot's own list is changed -/
theorem SR.mutOwn {xs ys : List AV} {us' : List Value} {h' : Heap} {t : Nat} (r : SR X g st s) (e : st.get i = some (.lst xs, true)) (a0 : At X s i (.ref a)) (hs : Heap.SameBut a s.heap h') (l : LstAt h' a us') (q : RepL X.gc g s.heap ys us') (ht : s.toks ≤ t) :
    SR X g (st.put i (.lst ys) true) { s with heap := h', toks := t } ∧ StE X g s g { s with heap := h', toks := t } := by
  obtain ⟨u0, a1, b, xs', us, e1, e2, l0, q0, nf, nm, hlo⟩ := r.slot i _ _ e a0.vis
  have := a1.inj a0
  rw [this] at e1
  cases e1
  have keep : ∀ b o, b ≠ a → s.heap.get? b = some o → h'.get? b = some o := fun b o n e => (hs.2 b n).trans e
  have mono : GMono g g s.heap h' := ⟨fun b o f e => keep b o (fun z => nf (z ▸ f)) e, fun _ e => e, ⟨[], by simp⟩, fun _ _ e => e⟩
  obtain ⟨n1, n2, n3⟩ := r.lstFr l0 hlo
  have there : ∀ b o, s.heap.get? b = some o → ∃ o', h'.get? b = some o' := fun b o e => by
    by_cases hb : b = a
    · obtain ⟨_, n, z⟩ := l
      rw [hb]; exact ⟨_, z⟩
    · exact ⟨o, keep b o hb e⟩
  have h0ne : ∀ b, (∃ o, X.h0.get? b = some o) → b ≠ a := fun b h z => some_ne h (z ▸ hlo)
  have nb : ∀ b o, X.gc.base.get? b = some o → b ≠ a := fun b o e => h0ne b (r.ok.loB b o e)
  have kl : ∀ o, s.heap.get? X.env.locals = some o → ∃ sl, ({ s with heap := h', toks := t } : Shared).heap.get? X.env.locals = some { o with slots := sl } := fun o e => ⟨o.slots, keep _ o (fun z => n1 z.symm) e⟩
  have kc : ∀ x c, X.env.cells.lookup x = some c → ∀ o, s.heap.get? c = some o → ∃ sl, ({ s with heap := h', toks := t } : Shared).heap.get? c = some { o with slots := sl } := fun x c e o q => ⟨o.slots, keep c o (n2 x c e) q⟩
  have hil := get_lt e
  have backA : ∀ j v o w, st.get j = some (v, o) → At X { s with heap := h', toks := t } j w → At X s j w := fun j v o w e q => by
    obtain ⟨u0, a0, _⟩ := r.slot j v o e q.vis
    exact ((a0.keep kl kc).inj q) ▸ a0
  have old : ∀ j w, (st.put i (.lst ys) true).get j = some (w, true) → ∃ w', st.get j = some (w', true) := fun j w ej => by
    rw [get_put] at ej
    by_cases hj : j = i
    · exact ⟨_, hj ▸ e⟩
    · rw [if_neg (fun z => hj z.1)] at ej
      exact ⟨w, ej⟩
  refine ⟨⟨r.ok, r.bare, fun b o e => keep b o (nb b o e) (r.base b o e), fun b o e => let ⟨o1, e1⟩ := r.ent b o e; there b o1 e1, funs_slots r.funs fun L hL o e => ⟨o.slots, keep L o (fun z => n3 (z ▸ hL)) e⟩, ?_, fun x c e => ?_, ?_, r.fzL, r.fzC, r.fzF, r.muL, r.muC, r.muF, fun j w o ej hv => ?_, fun j1 j2 w1 w2 z e1 e2 a1 a2 => ?_, (put_len _ _ _ _).trans r.len, fun L hL => let ⟨m, n⟩ := r.frD L hL; ⟨m, Ns.slots n fun o e => ⟨o.slots, keep L o (fun z => n3 (z ▸ hL)) e⟩⟩⟩, ?_⟩
  · obtain ⟨m, n⟩ := r.ns
    exact ⟨m, Ns.slots n kl⟩
  · obtain ⟨v, z⟩ := r.cell x c e
    exact ⟨v, Cell.slots z (kc x c e)⟩
  · refine ⟨fun b f => let ⟨o, e⟩ := r.gh.fzIn b f; there b o e, r.gh.thNd, r.gh.thFz, fun b f => let ⟨o, e⟩ := r.gh.thIn b f; there b o e, r.gh.thB, r.gh.len, fun i p v e1 e2 => ?_, r.gh.tk0, fun t' x e => Nat.lt_of_lt_of_le (r.gh.tkLt t' x e) ht, Nat.lt_of_lt_of_le r.gh.tkPos ht⟩
    have q := r.gh.cell i p v e1 e2
    cases v with
    | lst xs =>
      obtain ⟨e, us, l, rr⟩ := q
      have hm : g.mu p.1 := ⟨p, List.mem_of_getElem? e1, e⟩
      exact ⟨e, us, l.mono fun o z => keep _ o (fun z => nm (z ▸ hm)) z, RepL.mono mono rr⟩
    | non => trivial
    | _ => exact q
  · rw [get_put] at ej
    by_cases hj : j = i
    · rw [if_pos ⟨hj, hil⟩] at ej
      cases ej
      subst hj
      exact ⟨_, a0.keep kl kc, a, ys, us', rfl, rfl, l, RepL.mono mono q, nf, nm, hlo⟩
    · rw [if_neg (fun z => hj z.1)] at ej
      obtain ⟨u1, b0, sv⟩ := r.slot j w o ej hv
      refine ⟨u1, b0.keep kl kc, ?_⟩
      cases o with
      | false => exact Rep.mono mono sv
      | true =>
        obtain ⟨b, zs, ws, e3, e4, l3, q3, nf3, nm3, hlo3⟩ := sv
        refine ⟨b, zs, ws, e3, e4, l3.mono fun o z => keep _ o (fun z => hj ?_) z, RepL.mono mono q3, nf3, nm3, hlo3⟩
        subst z
        exact r.dist j i w _ _ ej e (e3 ▸ b0) a0
  · obtain ⟨w1', e1'⟩ := old _ _ e1
    obtain ⟨w2', e2'⟩ := old _ _ e2
    exact r.dist j1 j2 w1' w2' z e1' e2' (backA _ _ _ _ e1' a1) (backA _ _ _ _ e2' a2)
  · exact ⟨rfl, mono, fun b o h e _ _ => keep b o (h0ne b h) e, fun b o h e _ => ⟨o.slots, keep b o (h0ne b h) e⟩, there, fun _ e => .inl e, ⟨[], by simp, fun _ h => nomatch h⟩, ht, fun b o p => ⟨keep b o (fun z => p.cls (lst_cls l0 (z ▸ p.obj))) p.obj, p.cls, p.fz, p.mu, p.loc, p.cell, p.fr⟩⟩

/-- a new list becomes changeable for all -/
theorem SR.addRef {n : Heap} {xs : List AV} (r : SR X g st s) (t : RepT X n g st s .fr (.lst xs) u) :
    ∃ g', SR X g' { st with hp := st.hp ++ [.lst xs] } s ∧ StE X g s g' s ∧ Rep X.gc g' s.heap (.ref st.hp.length) u ∧ g'.fz = g.fz := by
  obtain ⟨a, xs', us, rfl, e, l, q, nf, nm, hlo, hn, no⟩ := t
  cases e
  obtain ⟨n1, n2, n3⟩ := r.lstFr l hlo
  obtain ⟨ob, eo⟩ : ∃ ob, s.heap.get? a = some ob := let ⟨_, n, e⟩ := l; ⟨_, e⟩
  have nb : X.gc.base.get? a = none := by
    cases hb : X.gc.base.get? a with
    | none => rfl
    | some o => exact (some_ne (r.ok.loB a o hb) hlo).elim
  let g' : Gh := { g with th := g.th ++ [(a, some a)] }
  have mono : GMono g g' s.heap s.heap := ⟨fun _ _ _ e => e, fun _ e => e, ⟨[(a, some a)], rfl⟩, fun _ _ e => e⟩
  have mu : ∀ b, g'.mu b → g.mu b ∨ b = a := fun b ⟨p, hp, e⟩ => by
    rcases List.mem_append.mp hp with h | h
    · exact .inl ⟨p, h, e⟩
    · rw [List.mem_singleton.mp h] at e; exact .inr (Option.some.inj e).symm
  have len : (g.th ++ [(a, some a)]).length = g.th.length + 1 := by simp
  refine ⟨g', ⟨r.ok, r.bare, r.base, r.ent, r.funs, r.ns, r.cell, ?_, r.fzL, r.fzC, r.fzF, fun z => (mu _ z).elim r.muL fun e => n1 e.symm, fun x c e z => (mu _ z).elim (r.muC x c e) fun e' => n2 x c e e', fun L hL z => (mu _ z).elim (r.muF L hL) fun e => n3 (e ▸ hL), fun i v o e hv => ?_, r.dist, r.len, r.frD⟩,
    ⟨rfl, mono, fun _ _ _ e _ _ => e, fun _ o _ e _ => ⟨o.slots, e⟩, fun _ o e => ⟨o, e⟩, fun _ e => .inl e, ⟨[(a, some a)], rfl, fun p hp b q => by rw [List.mem_singleton.mp hp] at q; exact Option.some.inj q ▸ hlo⟩, Nat.le_refl _, fun b o p => ⟨p.obj, p.cls, p.fz, fun z => (mu b z).elim p.mu fun e => p.cls (lst_cls l (e ▸ p.obj)), p.loc, p.cell, p.fr⟩⟩, ?_, rfl⟩
  · refine ⟨r.gh.fzIn, ?_, fun b hb => (mu b hb).elim (r.gh.thFz b) fun e => e ▸ nf, fun b hb => (mu b hb).elim (r.gh.thIn b) fun e => ⟨ob, e ▸ eo⟩, fun b hb => (mu b hb).elim (r.gh.thB b) fun e => e ▸ nb, ?_, fun k p v e1 e2 => ?_, r.gh.tk0, r.gh.tkLt, r.gh.tkPos⟩
    · show ((g.th ++ [(a, some a)]).filterMap (·.2)).Nodup
      rw [List.filterMap_append, List.nodup_append]
      refine ⟨r.gh.thNd, by simp, fun b hb c hc z => ?_⟩
      have hc : c = a := by simpa using hc
      obtain ⟨p, hp, e⟩ := List.mem_filterMap.mp hb
      exact nm ⟨p, hp, by rw [e, z, hc]⟩
    · show (st.hp ++ [AV.lst xs]).length = (g.th ++ [(a, some a)]).length
      simp [r.gh.len]
    · have e1 : (g.th ++ [(a, some a)])[k]? = some p := e1
      have e2 : (st.hp ++ [AV.lst xs])[k]? = some v := e2
      by_cases hk : k < g.th.length
      · rw [List.getElem?_append_left hk] at e1
        rw [List.getElem?_append_left (by rw [r.gh.len]; exact hk)] at e2
        have q := r.gh.cell k p v e1 e2
        cases v with
        | lst xs =>
          obtain ⟨e, us, l, rr⟩ := q
          exact ⟨e, us, l, RepL.mono mono rr⟩
        | non => trivial
        | _ => exact q
      · have hk2 : k = g.th.length := by
          have := (List.getElem?_eq_some_iff.mp e1).1
          omega
        subst hk2
        have e1 : (a, some a) = p := by simpa using e1
        rw [← r.gh.len] at e2
        have e2 : AV.lst xs = v := by simpa using e2
        subst e1; subst e2
        exact ⟨rfl, us, l, RepL.mono mono q⟩
  · obtain ⟨u0, a0, sv⟩ := r.slot i v o e hv
    refine ⟨u0, a0, ?_⟩
    cases o with
    | false => exact Rep.mono mono sv
    | true =>
      obtain ⟨b, ys, ws, e1, e2, l2, q2, nf2, nm2, hlo2⟩ := sv
      refine ⟨b, ys, ws, e1, e2, l2, RepL.mono mono q2, nf2, fun z => (mu b z).elim nm2 fun e3 => no ⟨i, v, e, ?_⟩, hlo2⟩
      subst e3
      exact e1 ▸ a0
  · simp only [Rep]
    exact ⟨(a, some a), by show (g.th ++ [(a, some a)])[st.hp.length]? = _; rw [r.gh.len]; simp, rfl⟩
end
end Q
end

section
set_option Elab.async false
set_option linter.all false
set_option maxRecDepth 100000
/-! Core10: what an expression of the IR promises of its text; the simple cases. -/
namespace Q
open PySem PySem.Spec PyProof.Rows PySem.Builtin

def KR {α : Type} (r : Res α) (ok : α → S → Prop) : Prop :=
  match r with
  | .ok a s => ok a s
  | _ => False
theorem KR_ok {α : Type} (a : α) (s : S) (ok : α → S → Prop) : KR (.ok a s) ok = ok a s := rfl
theorem KR_stuck {α : Type} (ok : α → S → Prop) : KR (.stuck) ok = False := rfl
theorem KR_exc {α : Type} (x : AV) (s : S) (ok : α → S → Prop) : KR (.exc x s) ok = False := rfl
theorem KR_bind {α β : Type} (r : Res α) (f : α → S → Res β) (ok : β → S → Prop) : KR (r.bind f) ok = KR r (fun a s => KR (f a s) ok) := by cases r <;> rfl
theorem KR.mono {α : Type} {r : Res α} {ok ok' : α → S → Prop} (h : KR r ok) (m : ∀ a s, ok a s → ok' a s) : KR r ok' := by
  cases r with
  | ok a s => exact m a s h
  | _ => exact h
theorem KR_ofO {α : Type} {o : Option α} {s : S} {ok : α → S → Prop} (h : KR (ofO o s) ok) : ∃ a, o = some a ∧ ok a s := by
  cases o with
  | none => exact h.elim
  | some a => exact ⟨a, rfl, h⟩

section
variable (X : Fx) (g : Gh) (st : S) (s : Shared)
def EQ (Q : Value → Shared → Prop) : (AV × Md) → S → Prop := fun a st' => ∀ g' s' u, SR X g' st' s' → FrE X g st s g' st' s' → RepT X s.heap g' st' s' a.2 a.1 u → Q u s'
def TQ (Q : Bool → Shared → Prop) : Bool → S → Prop := fun b st' => ∀ g' s', SR X g' st' s' → FrE X g st s g' st' s' → Q b s'
def AQ (Q : List Value → Shared → Prop) : List AV → S → Prop := fun vs st' => ∀ g' s' us, SR X g' st' s' → FrE X g st s g' st' s' → RepL X.gc g' s'.heap vs us → Q us s'
def BQ (Q : List Value → Shared → Prop) : List AV → S → Prop := fun vs st' => ∀ g' s' us, SR X g' st' s' → FrE X g st s g' st' s' → RepBL X g' s'.heap vs us → Q us s'
end

structure ESd (X : Fx) (C : Oracle) (i : IE) (e : Expr) : Prop where
  run : ∀ (g : Gh) (st : S) (s : Shared) (Q E : Value → Shared → Prop), SR X g st s → KR (ev C i st) (EQ X g st s Q) → wpAny (model X.gc.P X.gc.w) X.A (eval e X.env) Q E s
/-- a test -/
structure ETd (X : Fx) (C : Oracle) (i : IE) (e : Expr) : Prop where
  run : ∀ (g : Gh) (st : S) (s : Shared) (Q : Bool → Shared → Prop) (E : Value → Shared → Prop), SR X g st s → KR (evT C i st) (TQ X g st s Q) → wpAny (model X.gc.P X.gc.w) X.A (isTrue e X.env (eval e X.env)) Q E s
/-- arguments that are given away -/
structure EAd (X : Fx) (C : Oracle) (is : List IE) (es : List Expr) : Prop where
  run : ∀ (pos : Pos) (g : Gh) (st : S) (s : Shared) (Q : List Value → Shared → Prop) (E : Value → Shared → Prop), SR X g st s → KR (evs C is st) (AQ X g st s Q) → wpAny (model X.gc.P X.gc.w) X.A (spliced (backTo pos (starEach es X.env))) Q E s
/-- .. looked at -/
structure EBd (X : Fx) (C : Oracle) (is : List IE) (es : List Expr) : Prop where
  run : ∀ (pos : Pos) (g : Gh) (st : S) (s : Shared) (Q : List Value → Shared → Prop) (E : Value → Shared → Prop), SR X g st s → KR (evB C is st) (BQ X g st s Q) → wpAny (model X.gc.P X.gc.w) X.A (spliced (backTo pos (starEach es X.env))) Q E s

section
variable {X : Fx} {C : Oracle} {g g' : Gh} {st st' : S} {s s' : Shared} {u w : Value} {Q : Value → Shared → Prop} {E : Value → Shared → Prop}
theorem RepT.weak {n : Heap} {md : Md} {v : AV} (t : RepT X n g st s md v u) {n' : Heap} (h : ∀ a, n.get? a = none → n'.get? a = none) : RepT X n' g st s md v u := by
  cases md with
  | fz => exact t
  | fr =>
    obtain ⟨a, xs, us, e1, e2, e3, e4, e5, e6, e7, e8, e9⟩ := t
    exact ⟨a, xs, us, e1, e2, e3, e4, e5, e6, e7, h a e8, e9⟩
  | bo i => exact t
theorem EQ.post {z : AV} {b : Bool} (f : FrE X g st s g' st' s') (h : EQ X g st s Q (z, mdOf b) st') : PostV X g' st' s' z b Q :=
  fun g2 s2 y r2 f2 t => h g2 s2 y r2 (f.trans f2) (t.weak fun a e => f.kp.none e)
theorem EQ.postf {z : AV} (f : FrE X g st s g' st' s') (h : EQ X g st s Q (z, .fz) st') : PostV X g' st' s' z false Q := EQ.post (b := false) f h
theorem EQ.from (f : FrE X g st s g' st' s') {a : AV × Md} {st2 : S} (h : EQ X g st s Q a st2) : EQ X g' st' s' Q a st2 :=
  fun g2 s2 y r2 f2 t => h g2 s2 y r2 (f.trans f2) (t.weak fun a e => f.kp.none e)
theorem TQ.from {Q : Bool → Shared → Prop} (f : FrE X g st s g' st' s') {a : Bool} {st2 : S} (h : TQ X g st s Q a st2) : TQ X g' st' s' Q a st2 := fun g2 s2 r2 f2 => h g2 s2 r2 (f.trans f2)
theorem AQ.from {Q : List Value → Shared → Prop} (f : FrE X g st s g' st' s') {a : List AV} {st2 : S} (h : AQ X g st s Q a st2) : AQ X g' st' s' Q a st2 := fun g2 s2 us r2 f2 q => h g2 s2 us r2 (f.trans f2) q
theorem BQ.from {Q : List Value → Shared → Prop} (f : FrE X g st s g' st' s') {a : List AV} {st2 : S} (h : BQ X g st s Q a st2) : BQ X g' st' s' Q a st2 := fun g2 s2 us r2 f2 q => h g2 s2 us r2 (f.trans f2) q

variable {a b d : IE} {ea eb ed : Expr} {pos : Pos}
theorem es_bin {o : BOp} (ha : ESd X C a ea) (hb : ESd X C b eb) : ESd X C (.bin o a b) (.BinOp ea (opOf o) eb pos) := ⟨fun g st s Q E r h => by
  rw [ev] at h; simp only [KR_bind] at h
  refine wpAny_BinOp (ha.run g st s _ _ r (h.mono fun x st1 h g1 s1 u r1 f1 t1 => ?_))
  refine hb.run g1 st1 s1 _ _ r1 (h.mono fun y st2 h g2 s2 w r2 f2 t2 => ?_)
  obtain ⟨z, e, h⟩ := KR_ofO h
  exact bop_ok r2 ((t1.look r1).keep r1 f2) (t2.look r2) e (EQ.post (f1.trans f2) h)⟩
theorem es_neg (ha : ESd X C a ea) : ESd X C (.neg a) (.UnaryOp .USub ea pos) := ⟨fun g st s Q E r h => by
  rw [ev] at h; simp only [KR_bind] at h
  refine UnaryOp_ (ha.run g st s _ _ r (h.mono fun x st1 h g1 s1 u r1 f1 t1 => ?_))
  have l := t1.look r1
  obtain ⟨v, md⟩ := x
  cases v with
  | int i =>
    simp only [RepB, Rep] at l
    obtain ⟨t, rfl⟩ := l
    exact PyProof.Rows.neg_int (r1.int (Nat.le_succ _) (EQ.postf f1 h))
  | _ => exact h.elim⟩
theorem es_not (ha : ESd X C a ea) : ESd X C (.not_ a) (.UnaryOp .Not ea pos) := ⟨fun g st s Q E r h => by
  rw [ev] at h; simp only [KR_bind] at h
  refine UnaryOp_ (ha.run g st s _ _ r (h.mono fun x st1 h g1 s1 u r1 f1 t1 => ?_))
  obtain ⟨z, e, h⟩ := KR_ofO h
  exact not_of (truth_ok r1 (t1.look r1) e fun k hk => r1.tokV hk (fun _ _ => rep_bl) (EQ.postf f1 h))⟩
theorem es_cmp {o : COp} (ha : ESd X C a ea) (hb : ESd X C b eb) (hm : behindInMarks (cmpOf o) eb = false) : ESd X C (.cmp o a b) (.Compare ea [cmpOf o] [eb] pos) := ⟨fun g st s Q E r h => by
  rw [ev] at h; simp only [KR_bind] at h
  refine wpAny_Compare1 (ha.run g st s _ _ r (h.mono fun x st1 h g1 s1 u r1 f1 t1 => ?_)) hm
  refine hb.run g1 st1 s1 _ _ r1 (h.mono fun y st2 h g2 s2 w r2 f2 t2 => ?_)
  obtain ⟨z, e, h⟩ := KR_ofO h
  exact cop_ok r2 ((t1.look r1).keep r1 f2) (t2.look r2) e (r2.bl (EQ.postf (f1.trans f2) h))⟩
theorem ite_t {Q : Value → Shared → Prop} {M : Model} {A : Around} {t : Sem Value} {v : Value} (h : wpAny M A t Q E s) : (if true = true then wpAny M A t Q E s else Q v s) := by rw [if_pos rfl]; exact h
theorem es_chain {o p : COp} (ha : ESd X C a ea) (hb : ESd X C b eb) (hd : ESd X C d ed) (hm : lastMarks [cmpOf o, cmpOf p] [eb, ed] = false) : ESd X C (.chain o p a b d) (.Compare ea [cmpOf o, cmpOf p] [eb, ed] pos) := ⟨fun g st s Q E r h => by
  rw [ev] at h; simp only [KR_bind] at h
  refine Compare_chain (ha.run g st s _ _ r (h.mono fun x st1 h g1 s1 u r1 f1 t1 => chain_link ?_)) hm
  refine hb.run g1 st1 s1 _ _ r1 (h.mono fun y st2 h g2 s2 w r2 f2 t2 => ?_)
  obtain ⟨z, e, h⟩ := KR_ofO h
  have lb := t2.look r2
  refine cop_ok r2 ((t1.look r1).keep r1 f2) lb e (wpAny_truthy_bool ?_)
  cases z with
  | false =>
    simp only [Bool.false_eq_true, if_false] at h ⊢
    exact r2.bl (EQ.postf (f1.trans f2) h)
  | true =>
    simp only [if_true] at h ⊢
    simp only [KR_bind] at h
    refine chain_last (hd.run g2 st2 s2 _ _ r2 (h.mono fun c st3 h g3 s3 v r3 f3 t3 => ?_))
    obtain ⟨z, e, h⟩ := KR_ofO h
    exact cop_ok r3 (lb.keep r2 f3) (t3.look r3) e (r3.bl (EQ.postf ((f1.trans f2).trans f3) h))⟩
theorem es_ife (hd : ETd X C d ed) (ha : ESd X C a ea) (hb : ESd X C b eb) : ESd X C (.ife d a b) (.IfExp ed ea eb pos) := ⟨fun g st s Q E r h => by
  rw [ev] at h; simp only [KR_bind] at h
  refine wpAny_IfExp (hd.run g st s _ _ r (h.mono fun x st1 h g1 s1 r1 f1 => ?_))
  cases x with
  | true => exact ha.run g1 st1 s1 _ _ r1 (h.mono fun y st2 h => EQ.from f1 h)
  | false => exact hb.run g1 st1 s1 _ _ r1 (h.mono fun y st2 h => EQ.from f1 h)⟩
/-- `and`, `or`: a value -/
theorem es_and1 (ha : ESd X C a ea) : ESd X C (.and_ [a]) (.BoolOp .And [ea] pos) := ⟨fun g st s Q E r h => by
  rw [ev, evAnd] at h
  exact BoolOp_one (ha.run g st s _ _ r h)⟩
theorem es_or1 (ha : ESd X C a ea) : ESd X C (.or_ [a]) (.BoolOp .Or [ea] pos) := ⟨fun g st s Q E r h => by
  rw [ev, evOr] at h
  exact BoolOp_one (ha.run g st s _ _ r h)⟩
theorem RepT.toks {n : Heap} {md : Md} {v : AV} {k : Nat} (t : RepT X n g st s md v u) : RepT X n g st { s with toks := k } md v u := by
  cases md <;> exact t
theorem es_and {c : IE} {ec : Expr} {is : List IE} {es : List Expr} (ha : ESd X C a ea) (hr : ESd X C (.and_ (c :: is)) (.BoolOp .And (ec :: es) pos)) : ESd X C (.and_ (a :: c :: is)) (.BoolOp .And (ea :: ec :: es) pos) := ⟨fun g st s Q E r h => by
  rw [ev, evAnd] at h
  · simp only [KR_bind] at h
    refine BoolOp_and (ha.run g st s _ _ r (h.mono fun x st1 h g1 s1 u r1 f1 t1 => ?_))
    cases e : truth x.1 with
    | none => simp only [e] at h; exact h.elim
    | some k =>
      refine truth_ok r1 (t1.look r1) e fun n hn => ?_
      obtain ⟨r2, f2⟩ := r1.tok hn
      cases k with
      | true =>
        simp only [e, if_true] at h ⊢
        exact hr.run g1 st1 _ _ _ r2 (by rw [ev]; exact h.mono fun y st2 h => EQ.from (f1.trans f2) h)
      | false =>
        simp only [e, Bool.false_eq_true, if_false] at h ⊢
        exact h g1 _ u r2 (f1.trans f2) t1.toks
  · intro z; cases z⟩
theorem es_or {c : IE} {ec : Expr} {is : List IE} {es : List Expr} (ha : ESd X C a ea) (hr : ESd X C (.or_ (c :: is)) (.BoolOp .Or (ec :: es) pos)) : ESd X C (.or_ (a :: c :: is)) (.BoolOp .Or (ea :: ec :: es) pos) := ⟨fun g st s Q E r h => by
  rw [ev, evOr] at h
  · simp only [KR_bind] at h
    refine BoolOp_or (ha.run g st s _ _ r (h.mono fun x st1 h g1 s1 u r1 f1 t1 => ?_))
    cases e : truth x.1 with
    | none => simp only [e] at h; exact h.elim
    | some k =>
      refine truth_ok r1 (t1.look r1) e fun n hn => ?_
      obtain ⟨r2, f2⟩ := r1.tok hn
      cases k with
      | false =>
        simp only [e, Bool.false_eq_true, if_false] at h ⊢
        exact hr.run g1 st1 _ _ _ r2 (by rw [ev]; exact h.mono fun y st2 h => EQ.from (f1.trans f2) h)
      | true =>
        simp only [e, if_true] at h ⊢
        exact h g1 _ u r2 (f1.trans f2) t1.toks
  · intro z; cases z⟩

/-! ### arguments -/
def noStar : Expr → Bool
  | .Starred _ _ => false
  | _ => true
theorem star_cons {e : Expr} {es : List Expr} {env : Env} (h : noStar e = true) : starEach (e :: es) env = (false, eval e env) :: starEach es env := by
  cases e <;> first | rfl | cases h
theorem star_all {env : Env} {pos : Pos} : ∀ {es : List Expr}, es.all noStar = true → (backTo pos (starEach es env)).any (·.1) = false
  | [], _ => rfl
  | e :: es, h => by
    rw [List.all_cons, Bool.and_eq_true] at h
    rw [star_cons h.1]
    show (false || (backTo pos (starEach es env)).any (·.1)) = false
    rw [star_all h.2]; rfl
theorem ea_nil : EAd X C [] [] := ⟨fun pos g st s Q E r h => by
  rw [evs] at h
  exact Calls.spliced_nil (h g s [] r FrE.refl RepL.nil)⟩
theorem ea_cons {is : List IE} {es : List Expr} (ha : ESd X C a ea) (hr : EAd X C is es) (hs : noStar ea = true) : EAd X C (a :: is) (ea :: es) := ⟨fun pos g st s Q E r h => by
  rw [evs] at h; simp only [KR_bind] at h
  rw [star_cons hs]
  show wpAny _ _ (spliced ((false, eval ea X.env) :: backTo pos (starEach es X.env))) _ _ s
  refine Calls.spliced_cons (ha.run g st s _ _ r (h.mono fun x st1 h g1 s1 u r1 f1 t1 => ?_))
  obtain ⟨g2, r2, f2, q2, m2⟩ := esc f1 r1 t1
  refine hr.run pos g2 _ s1 _ _ r2 (h.mono fun vs st3 h g3 s3 us r3 f3 q3 => ?_)
  exact h g3 s3 (u :: us) r3 (f2.trans f3) (RepL.cons (Rep.mono (f3.mono r2) q2) q3)⟩
theorem eb_nil : EBd X C [] [] := ⟨fun pos g st s Q E r h => by
  rw [evB] at h
  exact Calls.spliced_nil (h g s [] r FrE.refl rfl)⟩
theorem eb_cons {is : List IE} {es : List Expr} (ha : ESd X C a ea) (hr : EBd X C is es) (hs : noStar ea = true) : EBd X C (a :: is) (ea :: es) := ⟨fun pos g st s Q E r h => by
  rw [evB] at h; simp only [KR_bind] at h
  rw [star_cons hs]
  show wpAny _ _ (spliced ((false, eval ea X.env) :: backTo pos (starEach es X.env))) _ _ s
  refine Calls.spliced_cons (ha.run g st s _ _ r (h.mono fun x st1 h g1 s1 u r1 f1 t1 => ?_))
  have l := t1.look r1
  refine hr.run pos g1 _ s1 _ _ r1 (h.mono fun vs st3 h g3 s3 us r3 f3 q3 => ?_)
  exact h g3 s3 (u :: us) r3 (f1.trans f3) ⟨u, us, rfl, l.keep r1 f3, q3⟩⟩
theorem es_tup {is : List IE} {es : List Expr} {k : Nat} (ha : EAd X C is es) : ESd X C (.tup is) (.Tuple es k pos) := ⟨fun g st s Q E r h => by
  rw [ev] at h; simp only [KR_bind] at h
  refine wpAny_Tuple_spliced (ha.run pos g st s _ _ r (h.mono fun vs st1 h g1 s1 us r1 f1 q1 => ?_))
  by_cases hz : vs.length ≤ LIM
  · rw [if_pos hz] at h
    have hu : us.length ≤ LIM := by rw [q1.length]; exact hz
    exact ⟨by rw [LIM_eq]; exact hu, r1.newTup (k := s1.toks) q1 hu (Nat.le_refl _) (EQ.postf f1 h)⟩
  · rw [if_neg hz] at h; exact h.elim⟩
theorem es_lst {is : List IE} {es : List Expr} (ha : EAd X C is es) : ESd X C (.lst is) (.List es pos) := ⟨fun g st s Q E r h => by
  rw [ev] at h; simp only [KR_bind] at h
  refine wpAny_List_spliced (ha.run pos g st s _ _ r (h.mono fun vs st1 h g1 s1 us r1 f1 q1 => ?_))
  by_cases hz : vs.length ≤ LIM
  · rw [if_pos hz] at h
    have hu : us.length ≤ LIM := by rw [q1.length]; exact hz
    exact ⟨by rw [LIM_eq]; exact hu, r1.newLst (k := s1.toks) q1 hu (Nat.le_refl _) (EQ.post (b := true) f1 h)⟩
  · rw [if_neg hz] at h; exact h.elim⟩
theorem es_ix (ha : ESd X C a ea) (hb : ESd X C b eb) (hs : noSlice eb = true) : ESd X C (.ix a b) (.Subscript ea eb pos) := ⟨fun g st s Q E r h => by
  rw [ev] at h; simp only [KR_bind] at h
  refine Subscript_ (ha.run g st s _ _ r (h.mono fun x st1 h g1 s1 u r1 f1 t1 => ?_))
  refine hb.run g1 st1 s1 _ _ r1 (h.mono fun y st2 h g2 s2 w r2 f2 t2 => ?_)
  obtain ⟨z, e, h⟩ := KR_ofO h
  exact ix_ok hs r2 ((t1.look r1).keep r1 f2) (t2.look r2) e (EQ.postf (f1.trans f2) h)⟩
/-- a slice's part: left out, or an expression -/
structure EPd (X : Fx) (C : Oracle) (i : IE) (e : Option Expr) : Prop where
  run : ∀ (g : Gh) (st : S) (s : Shared) (Q E : Value → Shared → Prop), SR X g st s → KR (ev C i st) (EQ X g st s Q) → wpAny (model X.gc.P X.gc.w) X.A (evalPart e X.env) Q E s
theorem ep_some (ha : ESd X C a ea) : EPd X C a (some ea) := ⟨fun g st s Q E r h => by
  rw [evalPart_some]
  exact ha.run g st s Q E r h⟩
theorem ep_none : EPd X C (.c .non) none := ⟨fun g st s Q E r h => by
  rw [evalPart_none]
  rw [ev] at h
  exact wpAny_pure (h g s .none r FrE.refl (rep_non (gc := X.gc) (g := g) (h := s.heap)))⟩
theorem es_sl {lo hi : Option Expr} {p2 : Pos} (ha : ESd X C a ea) (hb : EPd X C b lo) (hd : EPd X C d hi) : ESd X C (.sl a b d) (.Subscript ea (.Slice lo hi none p2) pos) := ⟨fun g st s Q E r h => by
  rw [ev] at h; simp only [KR_bind] at h
  refine Subscript_ (ha.run g st s _ _ r (h.mono fun x st1 h g1 s1 u r1 f1 t1 => ?_))
  refine wpAny_Slice (hb.run g1 st1 s1 _ _ r1 (h.mono fun y st2 h g2 s2 w r2 f2 t2 => ?_))
  refine hd.run g2 st2 s2 _ _ r2 (h.mono fun c st3 h g3 s3 v r3 f3 t3 => ?_)
  obtain ⟨z, e, h⟩ := KR_ofO h
  rw [evalPart_none]
  refine wpAny_pure ?_
  exact sl_ok r3 (((t1.look r1).keep r1 f2).keep r2 f3) ((t2.look r2).keep r2 f3) (t3.look r3) e (EQ.post ((f1.trans f2).trans f3) h)⟩

/-! ### tests -/
def plainTest : Expr → Bool
  | .UnaryOp .Not _ _ => false
  | .BoolOp _ _ _ => false
  | .IfExp _ _ _ _ => false
  | .Compare _ _ _ _ => false
  | _ => true
theorem isTrue_of {e : Expr} (h : plainTest e = true) (env : Env) (whole : Sem Value) : isTrue e env whole = (do let v ← whole; standAt e.pos; holding [v] (truthy v)) := by
  cases e with
  | UnaryOp op x p => cases op <;> first | rfl | cases h
  | _ => first | rfl | cases h
/-- the IR that a plain test has -/
def plainI : IE → Bool
  | .not_ _ => false
  | .and_ _ => false
  | .or_ _ => false
  | .ife _ _ _ => false
  | _ => true
theorem evT_plain {i : IE} (h : plainI i = true) (st : S) : evT C i st = (ev C i st).bind fun x s => ofO (truth x.1) s := by
  cases i <;> first | (rw [evT] <;> (intros; first | rfl | contradiction)) | (cases h; done)
theorem et_plain (ha : ESd X C a ea) (h1 : plainTest ea = true) (h2 : plainI a = true) : ETd X C a ea := ⟨fun g st s Q E r h => by
  rw [evT_plain h2] at h; simp only [KR_bind] at h
  refine isTrue_plain (ha.run g st s _ _ r (h.mono fun x st1 h g1 s1 u r1 f1 t1 => ?_)) (isTrue_of h1 _ _)
  obtain ⟨z, e, h⟩ := KR_ofO h
  exact truth_ok r1 (t1.look r1) e fun k hk => let ⟨r2, f2⟩ := r1.tok hk; h g1 _ r2 (f1.trans f2)⟩
theorem et_not (ha : ETd X C a ea) : ETd X C (.not_ a) (.UnaryOp .Not ea pos) := ⟨fun g st s Q E r h => by
  rw [evT] at h; simp only [KR_bind] at h
  exact isTrue_not (ha.run g st s _ _ r (h.mono fun x st1 h => h))⟩
theorem et_ife (hd : ETd X C d ed) (ha : ETd X C a ea) (hb : ETd X C b eb) : ETd X C (.ife d a b) (.IfExp ed ea eb pos) := ⟨fun g st s Q E r h => by
  rw [evT] at h; simp only [KR_bind] at h
  refine isTrue_IfExp (hd.run g st s _ _ r (h.mono fun x st1 h g1 s1 r1 f1 => ?_))
  cases x with
  | true => exact ha.run g1 st1 s1 _ _ r1 (h.mono fun y st2 h => TQ.from f1 h)
  | false => exact hb.run g1 st1 s1 _ _ r1 (h.mono fun y st2 h => TQ.from f1 h)⟩
theorem et_cmp {o : COp} (ha : ESd X C a ea) (hb : ESd X C b eb) (hm : behindInMarks (cmpOf o) eb = false) : ETd X C (.cmp o a b) (.Compare ea [cmpOf o] [eb] pos) := ⟨fun g st s Q E r h => by
  rw [evT_plain rfl, ev] at h; simp only [KR_bind] at h
  refine wpAny_isTrue_Compare1 (ha.run g st s _ _ r (h.mono fun x st1 h g1 s1 u r1 f1 t1 => ?_)) hm
  refine hb.run g1 st1 s1 _ _ r1 (h.mono fun y st2 h g2 s2 w r2 f2 t2 => ?_)
  obtain ⟨z, e, h⟩ := KR_ofO h
  refine cop_ok r2 ((t1.look r1).keep r1 f2) (t2.look r2) e (wpAny_truthy_bool ?_)
  rw [KR_ok] at h
  obtain ⟨z', e', h⟩ := KR_ofO h
  cases e'
  exact h g2 s2 r2 (f1.trans f2)⟩
theorem et_chain {o p : COp} (ha : ESd X C a ea) (hb : ESd X C b eb) (hd : ESd X C d ed) (hm : lastMarks [cmpOf o, cmpOf p] [eb, ed] = false) : ETd X C (.chain o p a b d) (.Compare ea [cmpOf o, cmpOf p] [eb, ed] pos) := ⟨fun g st s Q E r h => by
  rw [evT_plain rfl, ev] at h; simp only [KR_bind] at h
  refine isTrue_chain (ha.run g st s _ _ r (h.mono fun x st1 h g1 s1 u r1 f1 t1 => test_link ?_)) hm
  refine hb.run g1 st1 s1 _ _ r1 (h.mono fun y st2 h g2 s2 w r2 f2 t2 => ?_)
  obtain ⟨z, e, h⟩ := KR_ofO h
  have lb := t2.look r2
  refine cop_ok r2 ((t1.look r1).keep r1 f2) lb e (wpAny_truthy_bool ?_)
  cases z with
  | false =>
    simp only [Bool.false_eq_true, if_false] at h ⊢
    rw [KR_ok] at h
    obtain ⟨z', e', h⟩ := KR_ofO h
    cases e'
    exact h g2 s2 r2 (f1.trans f2)
  | true =>
    simp only [if_true] at h ⊢
    simp only [KR_bind] at h
    refine test_last (hd.run g2 st2 s2 _ _ r2 (h.mono fun c st3 h g3 s3 v r3 f3 t3 => ?_))
    obtain ⟨z, e, h⟩ := KR_ofO h
    refine cop_ok r3 (lb.keep r2 f3) (t3.look r3) e (wpAny_truthy_bool ?_)
    rw [KR_ok] at h
    obtain ⟨z', e', h⟩ := KR_ofO h
    cases e'
    exact h g3 s3 r3 ((f1.trans f2).trans f3)⟩
/-- `and`, `or` as tests, over what is behind -/
structure EWd (X : Fx) (f : S → Res Bool) (e : Expr) : Prop where
  run : ∀ (whole : Sem Value) (g : Gh) (st : S) (s : Shared) (Q : Bool → Shared → Prop) (E : Value → Shared → Prop), SR X g st s → KR (f st) (TQ X g st s Q) → wpAny (model X.gc.P X.gc.w) X.A (isTrue e X.env whole) Q E s
theorem ew_and0 : EWd X (evTA C []) (.BoolOp .And [] pos) := ⟨fun wh g st s Q E r h => by
  rw [evTA] at h
  exact isTrue_and_nil (h g s r FrE.refl)⟩
theorem ew_or0 : EWd X (evTO C []) (.BoolOp .Or [] pos) := ⟨fun wh g st s Q E r h => by
  rw [evTO] at h
  exact isTrue_or_nil (h g s r FrE.refl)⟩
theorem ew_and {is : List IE} {es : List Expr} (ha : ETd X C a ea) (hr : EWd X (evTA C is) (.BoolOp .And es pos)) : EWd X (evTA C (a :: is)) (.BoolOp .And (ea :: es) pos) := ⟨fun wh g st s Q E r h => by
  rw [evTA] at h; simp only [KR_bind] at h
  refine isTrue_and (ha.run g st s _ _ r (h.mono fun x st1 h g1 s1 r1 f1 => ?_))
  cases x with
  | true => exact hr.run wh g1 st1 s1 _ _ r1 (h.mono fun y st2 h => TQ.from f1 h)
  | false => exact h g1 s1 r1 f1⟩
theorem ew_or {is : List IE} {es : List Expr} (ha : ETd X C a ea) (hr : EWd X (evTO C is) (.BoolOp .Or es pos)) : EWd X (evTO C (a :: is)) (.BoolOp .Or (ea :: es) pos) := ⟨fun wh g st s Q E r h => by
  rw [evTO] at h; simp only [KR_bind] at h
  refine isTrue_or (ha.run g st s _ _ r (h.mono fun x st1 h g1 s1 r1 f1 => ?_))
  cases x with
  | true => exact h g1 s1 r1 f1
  | false => exact hr.run wh g1 st1 s1 _ _ r1 (h.mono fun y st2 h => TQ.from f1 h)⟩
theorem et_and {is : List IE} {es : List Expr} (h : EWd X (evTA C is) (.BoolOp .And es pos)) : ETd X C (.and_ is) (.BoolOp .And es pos) := ⟨fun g st s Q E r hw => by
  rw [evT] at hw
  exact h.run _ g st s Q E r hw⟩
theorem et_or {is : List IE} {es : List Expr} (h : EWd X (evTO C is) (.BoolOp .Or es pos)) : ETd X C (.or_ is) (.BoolOp .Or es pos) := ⟨fun g st s Q E r hw => by
  rw [evT] at hw
  exact h.run _ g st s Q E r hw⟩
end
end Q
end

section
set_option Elab.async false
set_option linter.all false
set_option maxRecDepth 100000
/-! Core11: names, constants, calls. -/
namespace Q
open PySem PySem.Spec PyProof.Rows PySem.Builtin

section
variable {X : Fx} {C : Oracle} {g g' : Gh} {st st' : S} {s s' : Shared} {u w : Value} {Q : Value → Shared → Prop} {E : Value → Shared → Prop}
variable {a b d : IE} {ea eb ed : Expr} {pos : Pos}
theorem KR_false {α : Type} {r : Res α} (h : KR r fun _ _ => False) : False := by cases r <;> exact h

/-! ### names -/
theorem es_var {i : Nat} {x : Str} (hN : X.N[i]? = some x) (hv : L2.Vis X.env.scope x) (hd : (x == ("__debug__" : Str)) = false) (hcd : (x == ("__classdict__" : Str)) = false) : ESd X C (.v i) (.Name x pos) := ⟨fun g st s Q E r h => by
  rw [ev] at h
  have main : ∀ v o md, st.get i = some (v, o) → (∀ u, At X s i u → SlotV X g s.heap v o u → RepT X s.heap g st s md v u) → EQ X g st s Q (v, md) st → wpAny (model X.gc.P X.gc.w) X.A (eval (.Name x pos) X.env) Q E s := fun v o md e t h => by
    obtain ⟨u, ⟨y, ey, _, m, n, l⟩, sv⟩ := r.slot i v o e ⟨x, hN, hv⟩
    rw [hN] at ey; cases ey
    have fin : Q u s := h g s u r FrE.refl (t u ⟨x, hN, hv, m, n, l⟩ sv)
    rcases l with ⟨hk, hm⟩ | ⟨hk, c, hc, hcell⟩
    · exact wpAny_Name (wpAny_loadName_local r.ok.kind hk n hm fin) hd
    · rcases hk with hk | hk
      · exact wpAny_Name (wpAny_loadName_cell r.ok.kind hk hc hcell fin) hd
      · exact wpAny_Name (wpAny_loadName_free r.ok.kind hk hc hcell fin hcd) hd
  cases e : st.get i with
  | none => simp only [e] at h; exact h.elim
  | some p =>
    obtain ⟨v, o⟩ := p
    cases o with
    | true =>
      simp only [e] at h
      exact main v true (.bo i) e (fun u a0 sv => ⟨e, a0⟩) h
    | false =>
      simp only [e] at h
      exact main v false .fz e (fun u a0 sv => sv) h⟩
/-- a name of the module, or of Python -/
def Gl (X : Fx) (x : Str) : Prop := X.env.scope.names.lookup x = some .globalImplicit
theorem ld_glob {x : Str} (r : SR X g st s) (hg : Gl X x) (hm : X.gc.mg x = some u) (h : Q u s)
    (hd : (x == ("__debug__" : Str)) = false) : wpAny (model X.gc.P X.gc.w) X.A (eval (.Name x pos) X.env) Q E s :=
  Calls.Name_function_global r.ok.kind hg (Calls.loadGlobal_global (by rw [r.ok.glob]; exact r.ok.mod.glob.keeps r.base) hm h) hd
theorem ld_blt {x : Str} (r : SR X g st s) (hg : Gl X x) (hm : X.gc.mg x = none) (hv : bootBuiltins x = some u) (h : Q u s)
    (hn : x ≠ "__name__") (hd : (x == ("__debug__" : Str)) = false) : wpAny (model X.gc.P X.gc.w) X.A (eval (.Name x pos) X.env) Q E s := by
  obtain ⟨mb, h1, h2⟩ := r.ok.mod.blt
  exact Calls.Name_function_global r.ok.kind hg (Calls.loadGlobal_builtin (by rw [r.ok.glob]; exact r.ok.mod.glob.keeps r.base) hm (by rw [r.ok.blt]; exact h1.keeps r.base) ((h2 x hn).trans hv) h) hd

/-! ### constants -/
/-- an int of the module -/
theorem es_glint {x : Str} {i : Int} {t : Tok} (hg : Gl X x) (hm : X.gc.mg x = some (.int i t)) (hd : (x == ("__debug__" : Str)) = false) : ESd X C (.c (.int i)) (.Name x pos) := ⟨fun g st s Q E r h => by
  rw [ev] at h
  exact ld_glob r hg hm (r.val rep_int (EQ.postf FrE.refl h)) hd⟩
theorem es_int {i : Int} {j : Nat} : ESd X C (.c (.int i)) (.Constant (.int i) j pos) := ⟨fun g st s Q E r h => by
  rw [ev] at h
  exact wpAny_Constant_int (r.int (Nat.le_succ _) (EQ.postf FrE.refl h))⟩
theorem es_bl {i : Bool} {j : Nat} : ESd X C (.c (.bl i)) (.Constant (.bool i) j pos) := ⟨fun g st s Q E r h => by
  rw [ev] at h
  exact Constant_bool (r.bl (EQ.postf FrE.refl h))⟩
theorem es_non {j : Nat} : ESd X C (.c .non) (.Constant .none j pos) := ⟨fun g st s Q E r h => by
  rw [ev] at h
  exact Constant_none (r.val rep_non (EQ.postf FrE.refl h))⟩
theorem es_str {x : Tx} {j : Nat} (hx : TxOk x) : ESd X C (.c (.str x)) (.Constant (.str (tx x)) j pos) := ⟨fun g st s Q E r h => by
  rw [ev] at h
  exact Calls.Constant_str (r.str hx (EQ.postf FrE.refl h))⟩
/-- a class of Python's as a value -/
theorem es_ty {n : String} (hn : n ∈ tys) (hg : Gl X (Str.ofString n)) (hm : X.gc.mg (Str.ofString n) = none) : ESd X C (.c (.ty n)) (.Name (Str.ofString n) pos) := ⟨fun g st s Q E r h => by
  rw [ev] at h
  have fin : Q (.type n) s := r.val (v := .ty n) (by simp only [Rep]) (EQ.postf FrE.refl h)
  have key : ∀ m ∈ tys, bootBuiltins (Str.ofString m) = some (.type m) ∧ Str.ofString m ≠ "__name__" ∧ (Str.ofString m == ("__debug__" : Str)) = false := by decide +kernel
  obtain ⟨h1, h2, h3⟩ := key n hn
  exact ld_blt r hg hm h1 fin h2 h3⟩

/-! ### functions of Python's -/
def bfN : BF → String
  | .len => "len"
  | .int => "int"
  | .list => "list"
  | .tuple => "tuple"
  | .sorted => "sorted"
  | .isinst => "isinstance"
  | .max => "max"
  | .min => "min"
  | .dict => "dict"
theorem bfN_ok (f : BF) : bootBuiltins (Str.ofString (bfN f)) = some (bfV f) ∧ Str.ofString (bfN f) ≠ "__name__" ∧ (Str.ofString (bfN f) == ("__debug__" : Str)) = false := by
  cases f <;> decide +kernel
theorem es_bcall {f : BF} {is : List IE} {es : List Expr} {p : Pos} (hb : EBd X C is (ea :: es)) (hs : (ea :: es).all noStar = true) (hg : Gl X (Str.ofString (bfN f))) (hm : X.gc.mg (Str.ofString (bfN f)) = none) :
    ESd X C (.bcall f is) (.Call (.Name (Str.ofString (bfN f)) p) (ea :: es) [] pos) := ⟨fun g st s Q E r h => by
  rw [ev] at h; simp only [KR_bind] at h
  obtain ⟨h1, h2, h3⟩ := bfN_ok f
  rw [List.all_cons, Bool.and_eq_true] at hs
  refine wpAny_Call_Name_kw (ld_blt r hg hm h1 ?_ h2 h3)
  have args : ∀ {Q' : List Value → Shared → Prop}, (∀ us s', wpAny (model X.gc.P X.gc.w) X.A (call (bfV f) us) Q E s' → Q' us s') → wpAny (model X.gc.P X.gc.w) X.A (spliced (backTo pos (starEach (ea :: es) X.env))) Q' E s := fun {Q'} hq =>
    hb.run pos g st s _ _ r (h.mono fun vs st1 h g1 s1 us r1 f1 q1 => by
      obtain ⟨z, e, h⟩ := KR_ofO h
      exact hq us s1 (bfun_ok r1 q1 e (EQ.post f1 h)))
  cases f with
  | len => exact PyProof.Rows.callWith_builtin1 (args fun us s' k => k) (star_cons hs.1) (star_all hs.2)
  | int => exact PyProof.Rows.callWith_type1 (args fun us s' k => k) (star_cons hs.1) (star_all hs.2)
  | list => exact PyProof.Rows.callWith_type1 (args fun us s' k => k) (star_cons hs.1) (star_all hs.2)
  | tuple => exact PyProof.Rows.callWith_type1 (args fun us s' k => k) (star_cons hs.1) (star_all hs.2)
  | sorted => exact PyProof.Rows.callWith_builtin1 (args fun us s' k => k) (star_cons hs.1) (star_all hs.2)
  | isinst => exact PyProof.Rows.callWith_builtin1 (args fun us s' k => k) (star_cons hs.1) (star_all hs.2)
  | max => exact PyProof.Rows.callWith_builtin1 (args fun us s' k => k) (star_cons hs.1) (star_all hs.2)
  | min => exact PyProof.Rows.callWith_builtin1 (args fun us s' k => k) (star_cons hs.1) (star_all hs.2)
  | dict => exact PyProof.Rows.callWith_type1 (args fun us s' k => k) (star_cons hs.1) (star_all hs.2)⟩

/-! ### methods -/
theorem pop_ok {k : Nat} {as : List AV} {us : List Value} {z : AV × AV} {m : BM} (r : SR X g st s) (rv : RepB X g s.heap (.ref k) u) (ra : RepBL X g s.heap as us) (e : hmeth m st.hp[k]? as = some z)
    (h : ∀ g' s' y, SR X g' (st.hset k z.2) s' → FrE X g st s g' (st.hset k z.2) s' → Rep X.gc g' s'.heap z.1 y → Q y s') :
    wpAny (model X.gc.P X.gc.w) X.A (call (.builtin (bmId m)) (u :: us)) Q E s := by
  unfold hmeth at e
  split at e
  · rename_i xs i ex
    obtain ⟨p, e1, rfl⟩ := Option.map_eq_some_iff.mp e
    unfold hpop at e1
    obtain ⟨j, e2, e3⟩ := Option.bind_eq_some_iff.mp e1
    split at e3
    · rename_i hi
      obtain ⟨y, e4, rfl⟩ := Option.map_eq_some_iff.mp e3
      simp only [RepB, Rep] at rv
      obtain ⟨q, eq1, rfl⟩ := rv
      obtain ⟨eq2, its, l, qs⟩ : CellR X.gc g s.heap (.lst xs) q := r.gh.cell _ q _ eq1 ex
      obtain ⟨u2, q2, rfl, rb, rfl⟩ := ra
      simp only [RepB, Rep] at rb
      obtain ⟨t, rfl⟩ := rb
      obtain ⟨w, ew, rw'⟩ := qs.get e4
      have hl := qs.length
      have hj : j < its.length := (List.getElem?_eq_some_iff.mp ew).1
      obtain ⟨n, ho⟩ := lst_eq l
      have e2' : ixX its.length i = some j := by rw [hl]; exact e2
      refine call_meets F.slot_list_pop ⟨_, ho, rfl⟩ F.entry_list_pop (F.args_list_pop_2 _ _)
        (MeetsSeq.list_pop_at q.1 its.toArray n i t j w (fitsIndex_both hi.1 hi.2) (by rw [List.size_toArray]; exact (idx_of e2').1) (by simpa using ew) (by rw [List.size_toArray, LIM_eq]; exact l.1)) ⟨ho, ?_⟩
      have hup := PySem.IsL.update ho (fun xs : Array Value => xs.eraseIdxIfInBounds j)
      rw [show its.toArray.eraseIdxIfInBounds j = (its.eraseIdx j).toArray from List.eraseIdxIfInBounds_toArray ..] at hup
      have lt : LstAt (s.heap.update q.1 (Obj.mapSeq fun xs => xs.eraseIdxIfInBounds j)) q.1 (its.eraseIdx j) := ⟨by rw [List.length_eraseIdx]; have := l.1; split <;> omega, _, hup⟩
      obtain ⟨r2, f2⟩ := r.mutRef (t := s.toks) eq1 ex (Heap.SameBut.update _ _ _) lt (qs.erase j) (Nat.le_refl _)
      exact h g _ w r2 f2 (Rep.mono (f2.mono r) rw')
    · cases e3
  · cases e
theorem hmeth_none {m : BM} {o : Option AV} {as : List AV} (h : m ≠ .pop) : hmeth m o as = none := by
  unfold hmeth
  split
  · exact absurd rfl h
  · rfl
theorem es_meth {m : BM} {is : List IE} {es : List Expr} {apos : Pos} (ha : ESd X C a ea) (hb : EBd X C is (eb :: es)) (hs : (eb :: es).all noStar = true) (hbase : attributeBase ea (Str.ofString (bmName m)) X.env (eval ea X.env) = eval ea X.env)
    (hfew : es.length < 20) (hline : (apos.endLine == pos.line) = true) : ESd X C (.meth a m is) (.Call (.Attribute ea (Str.ofString (bmName m)) apos) (eb :: es) [] pos) := ⟨fun g st s Q E r h => by
  rw [ev] at h; simp only [KR_bind] at h
  have hs0 := hs
  rw [List.all_cons, Bool.and_eq_true] at hs
  have few : ((backTo pos (starEach (eb :: es) X.env)).all (fun x => !x.1) && (backToKw pos (keywordEach [] X.env)).all (fun x => x.1.isSome)
      && decide ((eb :: es).length + ([] : List Keyword).length + (if ([] : List Keyword).isEmpty then 0 else 1) < 30)) = true := by
    have h1 : (backTo pos (starEach (eb :: es) X.env)).all (fun x => !x.1) = true := by
      have := star_all (env := X.env) (pos := pos) hs0
      rw [List.any_eq_false] at this
      rw [List.all_eq_true]
      intro x hx
      have := this x hx
      simpa using this
    rw [h1]
    show (true && true && decide ((eb :: es).length + 0 + 0 < 30)) = true
    rw [List.length_cons]
    simp; omega
  refine wpAny_Call_method_late hbase few hline rfl (ha.run g st s _ _ r (h.mono fun x st1 h g1 s1 u r1 f1 t1 => ?_))
  by_cases hrc : recvOk x.1 st1.hp = true
  case neg => rw [if_neg hrc] at h; exact h.elim
  rw [if_pos hrc] at h
  simp only [KR_bind] at h
  have lx := t1.look r1
  have args : ∀ {Q' : List Value → Shared → Prop} {ok : List AV → S → Prop}, KR (evB C is st1) ok → (∀ vs st2 us g2 s2, ok vs st2 → SR X g2 st2 s2 → FrE X g1 st1 s1 g2 st2 s2 → RepBL X g2 s2.heap vs us → Q' us s2) →
      wpAny (model X.gc.P X.gc.w) X.A (spliced ((false, eval eb X.env) :: backTo pos (starEach es X.env))) Q' E s1 := fun {Q' ok} k hq => by
    have := hb.run pos g1 st1 s1 Q' E r1 (k.mono fun vs st2 k g2 s2 us r2 f2 q2 => hq vs st2 us g2 s2 k r2 f2 q2)
    rw [star_cons hs.1] at this
    exact this
  have wrap : ∀ {id : String}, wpAny (model X.gc.P X.gc.w) X.A (spliced ((false, eval eb X.env) :: backTo pos (starEach es X.env))) (fun us s' => wpAny (model X.gc.P X.gc.w) X.A (call (.builtin id) (u :: us)) Q E s') E s1 →
      wpAny (model X.gc.P X.gc.w) X.A (callWith pos (.builtin id) [u] (backTo pos (starEach (eb :: es) X.env)) []) Q E s1 := fun {id} k => by
    rw [star_cons hs.1]
    exact Calls.callWith_builtin (by show (false || (backTo pos (starEach es X.env)).any (·.1)) = false; rw [star_all hs.2]; rfl) (Calls.evalArgs_plain k)
  obtain ⟨v, md⟩ := x
  cases v with
  | str x =>
    dsimp only at h
    simp only [KR_bind] at h
    simp only [RepB, Rep] at lx
    have lx0 := lx
    obtain ⟨t, rfl, _⟩ := lx
    have run : wpAny (model X.gc.P X.gc.w) X.A (callWith pos (.builtin (bmId m)) [.str (tx x) t] (backTo pos (starEach (eb :: es) X.env)) []) Q E s1 := wrap (args h fun vs st2 us g2 s2 h r2 f2 q2 => by
      obtain ⟨z, e, h⟩ := KR_ofO h
      have lx1 : RepB X g1 s1.heap (.str x) (.str (tx x) t) := by simp only [RepB, Rep]; exact lx0
      exact (bmeth_ok rfl r2 (lx1.keep r1 f2) q2 e (EQ.post (f1.trans f2) h)).2.2)
    cases m with
    | join => exact ⟨"str", _, F.plainAttrs_str, F.slot_str_join, F.type_str_join, typeIs_str _ _ _, (fun _ z => by cases z), run⟩
    | startswith => exact ⟨"str", _, F.plainAttrs_str, F.slot_str_startswith, F.type_str_startswith, typeIs_str _ _ _, (fun _ z => by cases z), run⟩
    | replace => exact ⟨"str", _, F.plainAttrs_str, F.slot_str_replace, F.type_str_replace, typeIs_str _ _ _, (fun _ z => by cases z), run⟩
    | pop =>
      exact (KR_false (h.mono fun vs st2 h => by
        obtain ⟨z, e, h⟩ := KR_ofO h
        cases e)).elim
    | get =>
      exact (KR_false (h.mono fun vs st2 h => by
        obtain ⟨z, e, h⟩ := KR_ofO h
        cases e)).elim
  | dct ks vs =>
    dsimp only at h
    simp only [KR_bind] at h
    cases m with
    | get =>
      have hd : ∃ a, u = .ref a ∧ s1.TypeIs u "dict" ∧ (∀ o, s1.heap.get? a = some o → o.dict = none) := by
        simp only [RepB, Rep] at lx
        obtain ⟨a, kt, ws, rfl, f, ne, rfl, nd, l, d, q⟩ := lx
        refine ⟨a, rfl, d.typeIs, fun o e => ?_⟩
        obtain ⟨o2, es, ep, e2, ex, _⟩ := d
        rw [e] at e2; cases e2
        exact ex.2.1
      obtain ⟨a, rfl, ht, hdn⟩ := hd
      have ho : ∃ o, s1.heap.get? a = some o := let ⟨o, e, _⟩ := ht; ⟨o, e⟩
      obtain ⟨o, ho⟩ := ho
      refine ⟨"dict", _, F.plainAttrs_dict, F.slot_dict_get, F.type_dict_get, ht, (fun b z => by cases z; exact ⟨o, ho, hdn o ho⟩), wrap (args h fun vs st2 us g2 s2 h r2 f2 q2 => ?_)⟩
      obtain ⟨z, e, h⟩ := KR_ofO h
      unfold bmeth at e
      split at e
      case h_1 hv => cases hv
      case h_2 hv => cases hv
      case h_3 hv => cases hv
      case h_4 hv =>
        cases hv
        cases e
        have h' : EQ X g st s Q (_, mdOf false) st2 := h
        obtain ⟨_, _, _, _, run⟩ := dget_ok r2 (lx.keep r1 f2) q2 (EQ.post (b := false) (f1.trans f2) h')
        exact run
      case h_5 => cases e
    | _ =>
      exact (KR_false (h.mono fun vs st2 h => by
        obtain ⟨z, e, h⟩ := KR_ofO h
        cases e)).elim
  | ref k =>
    dsimp only at h
    simp only [KR_bind] at h
    cases m with
    | pop =>
      have lx0 := lx
      simp only [RepB, Rep] at lx
      obtain ⟨p, ep, rfl⟩ := lx
      have lk : ∃ xs, st1.hp[k]? = some (.lst xs) := by
        rw [recvOk_r] at hrc
        unfold isLst at hrc
        split at hrc
        · rename_i xs e
          exact ⟨xs, e⟩
        · cases hrc
      obtain ⟨xs, ex⟩ := lk
      obtain ⟨_, its, l, _⟩ : CellR X.gc g1 s1.heap (.lst xs) p := r1.gh.cell _ p _ ep ex
      obtain ⟨n, ho⟩ := lst_eq l
      refine ⟨"list", _, F.plainAttrs_list, F.slot_list_pop, F.type_list_pop, ⟨_, ho, rfl⟩, (fun a z => by cases z; exact ⟨_, ho, rfl⟩), wrap (args h fun vs st2 us g2 s2 h r2 f2 q2 => ?_)⟩
      obtain ⟨z, e, h⟩ := KR_ofO h
      exact pop_ok r2 (lx0.keep r1 f2) q2 e fun g3 s3 y r3 f3 q3 => h g3 s3 y r3 ((f1.trans f2).trans f3) q3
    | _ =>
      exact (KR_false (h.mono fun vs st2 h => by
        obtain ⟨z, e, h⟩ := KR_ofO h
        rw [hmeth_none (by intro z; cases z)] at e
        cases e)).elim
  | _ =>
    dsimp only at h
    simp only [KR_bind] at h
    exact (KR_false (h.mono fun vs st2 h => by
      obtain ⟨z, e, h⟩ := KR_ofO h
      cases m <;> cases e)).elim⟩
end
end Q
end

section
set_option Elab.async false
set_option linter.all false
set_option maxRecDepth 100000
/-! CoreR: x[::-1]. -/
namespace Q
open PySem PySem.Spec PyProof.Rows PySem.Builtin
theorem RepL.snoc {gc : GC} {g : Gh} {h : Heap} {xs : List AV} {us : List Value} {x : AV} {u : Value} (e : RepL gc g h xs us) (r : Rep gc g h x u) : RepL gc g h (xs ++ [x]) (us ++ [u]) := RepL.app e (RepL.one r)
theorem RepL.rev {gc : GC} {g : Gh} {h : Heap} : ∀ {xs : List AV} {us : List Value}, RepL gc g h xs us → RepL gc g h xs.reverse us.reverse
  | [], us, e => by
    have e : us = [] := by simpa only [RepL] using e
    subst e
    exact RepL.nil
  | x :: r, us, e => by
    simp only [RepL] at e
    obtain ⟨u, q, rfl, r1, t⟩ := e
    rw [List.reverse_cons, List.reverse_cons]
    exact RepL.snoc (RepL.rev t) r1
section
variable {X : Fx} {C : Oracle} {g g' : Gh} {st st' : S} {s s' : Shared} {u w : Value} {Q : Value → Shared → Prop} {E : Value → Shared → Prop}
variable {prog : Program} {wd : World} {A : Around}
theorem adjust_rev (n : Nat) : Builtin.Slice.sliceAdjust none none (-1) (n : Int) = ((n : Int) - 1, -1) := by
  unfold Builtin.Slice.sliceAdjust
  simp
theorem places_rev (n : Nat) : Builtin.Slice.slicePlaces ((n : Int) - 1) (-1) (-1) = n := by
  unfold Builtin.Slice.slicePlaces
  have h1 : ¬ ((-1 : Int) > 0) := by decide
  rw [if_neg h1]
  by_cases h : (n : Int) - 1 > -1
  · rw [if_pos h]
    have : (- (-1) : Int) = 1 := by decide
    rw [this, Int.ediv_one]
    omega
  · rw [if_neg h]
    omega
theorem sliceApplied_rev {sl : Addr} {t : Tok} {n : Nat} {Q : Int × Int × Nat → Shared → Prop} (hs : s.heap.IsSliceOf sl .none .none (.int (-1) t))
    (h : Q ((n : Int) - 1, -1, n) s) : wpAny (model prog wd) A (Builtin.Slice.sliceApplied (.ref sl) (pure (n : Int))) Q E s := by
  obtain ⟨os, hos, hcs, hds⟩ := id hs
  unfold Builtin.Slice.sliceApplied Builtin.Slice.sliceFields
  refine wpAny_bind (wpAny_bind (wpAny_field hos hds (x := .none) rfl (wpAny_bind (wpAny_field hos hds (x := .none) rfl (wpAny_bind (wpAny_field hos hds (x := .int (-1) t) rfl (wpAny_pure ?_)))))))
  refine wpAny_bind (HT.slicePart_ (.int (-1) t) ?_)
  show wpAny _ _ (if ((-1 : Int) == 0) = true then _ else _) _ _ s
  rw [if_neg (by decide)]
  refine wpAny_bind (HT.slicePart_ .none (wpAny_bind (HT.slicePart_ .none (wpAny_bind (wpAny_pure ?_)))))
  show wpAny _ _ (match Builtin.Slice.sliceAdjust none none (-1) (n : Int) with | (lo, hi) => pure (lo, (-1 : Int), Builtin.Slice.slicePlaces lo hi (-1))) _ _ s
  rw [adjust_rev n]
  show wpAny _ _ (pure ((n : Int) - 1, (-1 : Int), Builtin.Slice.slicePlaces ((n : Int) - 1) (-1) (-1))) _ _ s
  rw [places_rev]
  exact wpAny_pure h
theorem pick_rev (xs : Array Value) : ((List.range xs.size).filterMap fun (m : Nat) => xs[((xs.size : Int) - 1 + (m : Int) * (-1)).toNat]?).toArray = xs.toList.reverse.toArray := by
  congr 1
  have e : (fun (m : Nat) => xs[((xs.size : Int) - 1 + (m : Int) * (-1)).toNat]?) = fun (m : Nat) => xs[((xs.size : Int) - 1 - (m : Int)).toNat]? := by
    funext m
    have : (xs.size : Int) - 1 + (m : Int) * (-1) = (xs.size : Int) - 1 - (m : Int) := by omega
    rw [this]
  rw [e]
  have e2 : (List.range xs.size).filterMap (fun (m : Nat) => xs[((xs.size : Int) - 1 - (m : Int)).toNat]?) = ((List.range xs.size).map fun k => xs.size - 1 - k).filterMap (xs[·]?) := by
    rw [List.filterMap_map]
    congr 1
    funext m
    have : ((xs.size : Int) - 1 - (m : Int)).toNat = xs.size - 1 - m := by omega
    rw [this]
    rfl
  rw [e2, PySem.W.krv_range, List.filterMap_reverse, PySem.W.krv_all]
theorem getItem_tuple_rev {t sl : Addr} {items : Array Value} {tk : Tok} {Q : Value → Shared → Prop} (ht : IsTup s.heap t items) (hs : s.heap.IsSliceOf sl .none .none (.int (-1) tk))
    (h : Q (.ref s.heap.objs.size) { s with heap := s.heap.push { cls := .type "tuple", data := .seq items.toList.reverse.toArray } })
    (hsz : items.size ≤ sizeLine) : wpAny (model prog wd) A (getItem (.ref t) (.ref sl)) Q E s := by
  have htake : sizeOk (.seq items.toList.reverse.toArray) := by
    show items.toList.reverse.toArray.size ≤ sizeLine
    simpa using hsz
  obtain ⟨os, hos, hcs, hds⟩ := id hs
  have hTs : s.TypeIs (.ref sl) "slice" := ⟨os, hos, hcs⟩
  unfold getItem
  try with_reducible refine wpAny_holding ?_
  first | refine wpAny_bind (wpAny_pure ?_) | skip
  refine wpAny_bind (wpAny_sequenceKey ht.typeIs (by decide) ?_)
  refine wpAny_bind (wpAny_callSpecial?_slot (name := Str.ofString "__getitem__") ht.typeIs PyProof.Rows.slot_tuple_getitem
    (wpAny_call_entry PyProof.Rows.slot_tuple_getitem ht.typeIs entry_tuple_getitem ?_ (args_tuple_getitem _ _)))
  show wpAny _ _ (Builtin.Tuple.tupleItemsOf (.ref t) >>= _) _ _ s
  refine wpAny_bind (PyProof.Rows.tupleItemsOf_ ht ?_)
  refine wpAny_bind (wpAny_typeOf hTs ?_)
  rw [if_pos (by decide)]
  refine wpAny_bind (sliceApplied_rev hs ?_)
  have hno : ¬ ((((items.size : Int) - 1 == 0) && ((-1 : Int) == 1) && (items.size == items.size)) = true) := by
    intro q
    rw [Bool.and_eq_true, Bool.and_eq_true] at q
    exact absurd (eq_of_beq q.1.2) (by decide)
  show wpAny _ _ (if (((items.size : Int) - 1 == 0) && ((-1 : Int) == 1) && (items.size == items.size)) = true then _ else _) _ _ s
  rw [if_neg hno, pick_rev]
  first
    | exact wpAny_bind (m := Builtin.Tuple.tupleExact _) (wpAny_newObj_type (wpAny_pure ⟨_, rfl, wpAny_pure h⟩) htake)
    | exact wpAny_bind (m := Builtin.Tuple.tupleExact _) (wpAny_newObj_type (wpAny_bind (wpAny_pure (wpAny_pure ⟨_, rfl, wpAny_pure h⟩))) htake)
    | exact wpAny_bind (wpAny_bind (m := Builtin.Tuple.tupleExact _) (wpAny_newObj_type (wpAny_pure (wpAny_pure ⟨_, rfl, wpAny_pure h⟩)) htake))
    | exact wpAny_bind (wpAny_bind (m := Builtin.Tuple.tupleExact _) (wpAny_newObj_type (wpAny_pure ⟨_, rfl, wpAny_pure h⟩) htake))
theorem rev_ok {value : Expr} {p2 : Pos} {step : Expr} {a : AV} {z : AV × Bool} {t : Tok} (r : SR X g st s) (ra : RepB X g s.heap a u) (e : revV a = some z) (hq : PostV X g st s z.1 z.2 Q) :
    wpAny (model X.gc.P X.gc.w) X.A (subscriptTail value (.Slice none none (some step) p2) u (.ref s.heap.objs.size)) Q E { s with heap := s.heap.push { cls := .type "slice", data := .fields #[.none, .none, .int (-1) t] } } := by
  have kp : ∀ b o, s.heap.get? b = some o → (s.heap.push { cls := .type "slice", data := .fields #[.none, .none, .int (-1) t] }).get? b = some o := fun b o e => Heap.get?_push_of_some _ e
  obtain ⟨r1, f1⟩ := r.ext (k := s.toks) kp (Nat.le_refl _)
  have hsl : ({ s with heap := s.heap.push { cls := .type "slice", data := .fields #[.none, .none, .int (-1) t] } } : Shared).heap.IsSliceOf s.heap.objs.size .none .none (.int (-1) t) := ⟨_, Heap.get?_push_size _ rfl, rfl, rfl⟩
  have hq1 : PostV X g st { s with heap := s.heap.push { cls := .type "slice", data := .fields #[.none, .none, .int (-1) t] } } z.1 z.2 Q := fun g' s' y a b c => by
    refine hq g' s' y a (f1.trans b) ?_
    cases hz : z.2 with
    | false => rw [hz] at c; exact c
    | true =>
      rw [hz] at c
      obtain ⟨p, xs, us, e1, e2, e3, e4, e5, e6, e7, e8, e9⟩ := c
      exact ⟨p, xs, us, e1, e2, e3, e4, e5, e6, e7, f1.kp.none e8, e9⟩
  have ra1 := ra.keep r f1
  generalize hs1 : ({ s with heap := s.heap.push { cls := .type "slice", data := .fields #[.none, .none, .int (-1) t] } } : Shared) = s1 at *
  clear hq ra f1 kp
  unfold revV at e
  split at e
  case h_1 xs =>
    cases e
    obtain ⟨p, us, rfl, lt, q, _⟩ := ra1
    refine tail_any (isList_of lt).typeIs slot_list_getitem.lookup (wpAny_getItem_list_slice (isList_of lt) hsl .none .none (.int (-1) t) (by decide) ?_ (by rw [List.size_toArray, LIM_eq]; exact lt.1)) rfl
    rw [PySem.W.krv_pick]
    refine r1.newLst (k := s1.toks) (RepL.rev q) ?_ (Nat.le_refl _) hq1
    rw [List.length_reverse]
    exact lt.1
  case h_2 xs =>
    cases e
    simp only [RepB, Rep] at ra1
    obtain ⟨p, us, rfl, _, lt, q⟩ := ra1
    refine tail_any lt.2.1.typeIs slot_tuple_getitem.lookup (getItem_tuple_rev lt.2.1 hsl ?_ (by rw [List.size_toArray, LIM_eq]; exact lt.1)) rfl
    refine r1.newTup (k := s1.toks) (RepL.rev q) ?_ (Nat.le_refl _) hq1
    rw [List.length_reverse]
    exact lt.1
  case h_3 => cases e
theorem es_rev {a : IE} {ea : Expr} {p1 p2 p3 pos : Pos} {k : Nat} (ha : ESd X C a ea) : ESd X C (.rev a) (.Subscript ea (.Slice none none (some (.UnaryOp .USub (.Constant (.int 1) k p1) p2)) p3) pos) := ⟨fun g st s Q E r h => by
  rw [ev] at h; simp only [KR_bind] at h
  refine Subscript_ (ha.run g st s _ _ r (h.mono fun x st1 h g1 s1 u r1 f1 t1 => ?_))
  refine wpAny_Slice ?_
  rw [evalPart_none]
  refine wpAny_pure ?_
  refine wpAny_pure ?_
  rw [evalPart_some]
  refine (es_neg (C := C) (pos := p2) (es_int (C := C) (i := 1) (j := k) (pos := p1))).run g1 st1 s1 _ _ r1 ?_
  rw [ev, ev]
  intro g2 s2 w r2 f2 t2
  have t2 : Rep X.gc g2 s2.heap (.int (-1)) w := t2
  simp only [Rep] at t2
  obtain ⟨t, rfl⟩ := t2
  obtain ⟨z, e, h⟩ := KR_ofO h
  exact rev_ok r2 ((t1.look r1).keep r1 f2) e (EQ.post (f1.trans f2) h)⟩
end
end Q
end

section
set_option Elab.async false
set_option linter.all false
set_option maxRecDepth 100000
/-! CoreS: sorted(set(text)) of a text of small signs. -/
namespace Q
open PySem PySem.Spec PyProof.Rows PySem.Builtin

/-! ### the set -/
/-- G: whose text a token is; the set of the signs in l at a -/
def SetQ (P : Program) (w : World) (G : Nat → Option Tx) (h : Heap) (a : Addr) (l : List Str) : Prop :=
  ∃ D : PySem.Froz.SD, h.get? a = some (PySem.Froz.sObj "set" D) ∧ PySem.Froz.TxOk P w D l ∧ L2.Ris D.2.2.place.toList ∧ (w.params.followText "set-order" = true ∨ D.2.2.led = true) ∧
    ∀ e ∈ D.1.toList, ∃ (c : Nat) (u : Tok), e.2 = .str (tx [c]) u ∧ G u = some [c]
section
variable {P : Program} {w : World} {A : Around} {E : Value → Shared → Prop} {s : Shared} {a it : Addr} {G G' : Nat → Option Tx} {l : List Str} {h h' : Heap}
theorem SetQ.up (q : SetQ P w G h a l) (k : ∀ o, h.get? a = some o → h'.get? a = some o) (kg : ∀ t x, G t = some x → G' t = some x) : SetQ P w G' h' a l := by
  obtain ⟨D, ho, t, r, f, el⟩ := q
  exact ⟨D, k _ ho, t, r, f, fun e he => let ⟨c, u, e1, e2⟩ := el e he; ⟨c, u, e1, kg _ _ e2⟩⟩
theorem tail_ris {ep : Nat} {es : Array (Int × Value)} {t : SetTable} {d : Bool} (r : L2.Ris t.place.toList) : L2.Ris (PySem.Froz.tailTx ep es t d).2.2.place.toList ∧ (PySem.Froz.tailTx ep es t d).2.2.led = t.led ∧ (PySem.Froz.tailTx ep es t d).1.toList.Perm es.toList := by
  unfold PySem.Froz.tailTx
  split
  · exact ⟨L2.relayAll_ris .., L2.relayAll_led .., relayAll_perm ..⟩
  · exact ⟨r, rfl, List.Perm.refl _⟩
theorem add_ris {D : PySem.Froz.SD} {hs : Int} {v : Value} (r : L2.Ris D.2.2.place.toList) : L2.Ris (PySem.Froz.addTx hs v D).2.2.place.toList ∧ (PySem.Froz.addTx hs v D).2.2.led = D.2.2.led ∧
    (PySem.Froz.addTx hs v D).1.toList.Perm (D.1.push (hs, v)).toList := by
  unfold PySem.Froz.addTx
  have r1 := L2.layNew_ris D.2.2 D.1 hs v r
  have l1 := L2.layNew_led D.2.2 D.1 hs v
  have p1 := layNew_perm D.2.2 D.1 hs v
  generalize layNew D.2.2 D.1 hs v = Z at r1 l1 p1 ⊢
  split
  · obtain ⟨z1, z2, z3⟩ := tail_ris (ep := D.2.1) (es := Z.1) (t := { Z.2.1 with plain := false }) (d := Z.2.2.1) r1
    exact ⟨z1, z2.trans l1, z3.trans p1⟩
  · obtain ⟨z1, z2, z3⟩ := tail_ris (ep := D.2.1) (es := Z.1) (t := Z.2.1) (d := Z.2.2.1) r1
    exact ⟨z1, z2.trans l1, z3.trans p1⟩
/-- a text that is in the set already -/
theorem add_old {D : PySem.Froz.SD} {k : Str} {u : Tok} {Q : Bool → Shared → Prop} (ho : s.heap.get? a = some (PySem.Froz.sObj "set" D)) (F : PySem.Froz.TxOk P w D l) (hk : k ∈ l) (hb : l.length < scanBound) (h : Q false s) :
    wpAny (model P w) A (setAddHashed a (.str k u) (hashStr w k)) Q E s := by
  obtain ⟨es, ep, t⟩ := D
  have hd : (PySem.Froz.sObj "set" (es, ep, t)).data = .set es ep t := rfl
  have h1 : ElemsOf (strKind P w) es.toList := F.el
  have h2 : es.size < scanBound := by have q : es.size = l.length := F.sz; omega
  have h3 : (strKind P w).is k (.str k u) = true := PySem.Froz.is_str k u
  unfold setAddHashed setAddHashedIn
  refine wpAny_holding (wpAny_bind (wpAny_setState_of ho hd F.fit ?_))
  dsimp only
  rw [byScan_of rfl h2 h1]
  simp only [↓reduceIte]
  unfold setAddByScan
  refine wpAny_bind (wpAny_bind (wpAny_rule (wpAny_bind (wpAny_setScan_of (knd := strKind P w) (k := k) h3 ho hd F.fit h1 ?_))))
  cases e : List.findIdx? (fun e => (strKind P w).is k e.2) es.toList with
  | some j => exact wpAny_pure (wpAny_pure h)
  | none =>
    obtain ⟨x, hx, q⟩ := (F.mem k).mp hk
    have := List.findIdx?_eq_none_iff.mp e x hx
    rw [q] at this
    cases this
/-- a sign is put in -/
theorem add_q {c : Nat} {u : Tok} {Q : Bool → Shared → Prop} (q : SetQ P w G s.heap a l) (hb : l.length + 1 < scanBound) (hu : G u = some [c])
    (h : ∀ h' b, Heap.SameBut a s.heap h' → SetQ P w G h' a (if tx [c] ∈ l then l else tx [c] :: l) → Q b { s with heap := h' }) : wpAny (model P w) A (setAddHashed a (.str (tx [c]) u) (hashStr w (tx [c]))) Q E s := by
  obtain ⟨D, ho, t, r, f, el⟩ := q
  by_cases hk : tx [c] ∈ l
  · rw [if_pos hk] at h
    exact add_old ho t hk (by omega) (h s.heap false (Heap.SameBut.refl a s.heap) ⟨D, ho, t, r, f, el⟩)
  · rw [if_neg hk] at h
    refine PySem.Froz.add_x ho t hk hb (h _ true (Heap.SameBut.update ..) ?_)
    obtain ⟨r1, l1, p1⟩ := add_ris (hs := hashStr w (tx [c])) (v := .str (tx [c]) u) r
    refine ⟨_, PySem.Froz.get_upd _ ho rfl, PySem.Froz.add_ok u t, r1, f.imp id fun z => l1.trans z, fun e he => ?_⟩
    have he := p1.mem_iff.mp he
    rw [Array.toList_push] at he
    rcases List.mem_append.mp he with z | z
    · exact el e z
    · rw [List.mem_singleton.mp z]
      exact ⟨c, u, rfl, hu⟩

/-- what the loop keeps: the rest of the heap -/
structure Sb (fp : List Addr) (s s' : Shared) : Prop where
  heap : ∀ b o, b ∉ fp → s.heap.get? b = some o → s'.heap.get? b = some o
  gens : s'.gens = s.gens
  os : s'.os = s.os
  toks : s.toks ≤ s'.toks
/-- tokens of signs -/
structure Tks (G : Nat → Option Tx) (n : Nat) (G' : Nat → Option Tx) (n' : Nat) : Prop where
  up : ∀ t x, G t = some x → G' t = some x
  lt : ∀ t x, G' t = some x → t < n'
  z : G' 0 = G 0
theorem Tks.one {n k c : Nat} (h : ∀ t x, G t = some x → t < n) (h0 : 0 < n) (hk : n < k) : Tks G n (fun t => if t = n then some [c] else G t) k where
  up t x e := by
    show (if t = n then some [c] else G t) = some x
    rw [if_neg (by have := h t x e; omega)]; exact e
  lt t x e := by
    have e : (if t = n then some [c] else G t) = some x := e
    by_cases q : t = n
    · omega
    · rw [if_neg q] at e
      have := h t x e
      omega
  z := by
    show (if 0 = n then some [c] else G 0) = G 0
    rw [if_neg (by omega)]
def signL : List Nat → List Str → List Str
  | [], l => l
  | c :: r, l => signL r (if tx [c] ∈ l then l else tx [c] :: l)
theorem signL_mem : ∀ (cs : List Nat) (l : List Str) (k : Str), k ∈ signL cs l ↔ k ∈ l ∨ ∃ c ∈ cs, k = tx [c]
  | [], l, k => by simp [signL]
  | c :: r, l, k => by
    rw [signL, signL_mem]
    by_cases h : tx [c] ∈ l
    · rw [if_pos h]
      constructor
      · rintro (a | ⟨d, hd, e⟩)
        · exact .inl a
        · exact .inr ⟨d, List.mem_cons_of_mem _ hd, e⟩
      · rintro (a | ⟨d, hd, e⟩)
        · exact .inl a
        · rcases List.mem_cons.mp hd with z | z
          · exact .inl (by rw [e, z]; exact h)
          · exact .inr ⟨d, z, e⟩
    · rw [if_neg h]
      constructor
      · rintro (a | ⟨d, hd, e⟩)
        · rcases List.mem_cons.mp a with z | z
          · exact .inr ⟨c, by simp, z⟩
          · exact .inl z
        · exact .inr ⟨d, List.mem_cons_of_mem _ hd, e⟩
      · rintro (a | ⟨d, hd, e⟩)
        · exact .inl (List.mem_cons_of_mem _ a)
        · rcases List.mem_cons.mp hd with z | z
          · exact .inl (by rw [e, z]; simp)
          · exact .inr ⟨d, z, e⟩
theorem signL_nd : ∀ (cs : List Nat) (l : List Str), l.Nodup → (signL cs l).Nodup
  | [], l, h => h
  | c :: r, l, h => by
    rw [signL]
    split
    · exact signL_nd r l h
    · rename_i n
      exact signL_nd r _ (List.nodup_cons.mpr ⟨n, h⟩)
theorem signL_len : ∀ (cs : List Nat) (l : List Str), (signL cs l).length ≤ cs.length + l.length
  | [], l => by simp [signL]
  | c :: r, l => by
    rw [signL]
    refine Nat.le_trans (signL_len r _) ?_
    split <;> simp <;> omega

/-- the signs of a text go into the set -/
theorem loop_q {R : Result → Shared → Prop} {x : Str} {u : Tok} (hne : a ≠ it) (hh : A.handled = none) : ∀ (cs : List Nat) (i : Nat) (G : Nat → Option Tx) (l : List Str) (s : Shared), x.cps.toList.drop i = cs →
    SetQ P w G s.heap a l → s.heap.get? it = some (PySem.Froz.itObj x u i) → (∀ t y, G t = some y → t < s.toks) → 0 < s.toks → l.length + cs.length < scanBound →
    (∀ G' s', Sb [a, it] s s' → Tks G s.toks G' s'.toks → SetQ P w G' s'.heap a (signL cs l) → R (.ok (.ret .none)) s') → codeAny (model P w) A (.builtin "set.update.loop" ⟨[.ref a, .ref it], []⟩) R s
  | [], i, G, l, s, hd, q, hit, hG, h0, hb, h => by
    refine codeAny_builtin F.entry_set_update_loop ?_
    rw [Around.under_plainId F.plain_set_update_loop _]
    show wpAny _ A.in1 (pyNext (.ref it) >>= _) _ _ s
    refine wpAny_bind (PySem.Froz.end_x (u := u) (by exact hh) hit (PySem.Froz.at_end hd) (wpAny_pure ?_))
    have kp : ∀ b o, b ≠ it → s.heap.get? b = some o → (PySem.Froz.endHeap s.heap it i).get? b = some o := fun b o n e => Heap.get?_push_of_some _ (Heap.get?_push_of_some _ (PySem.Heap.get?_update_of_ne _ (Ne.symm n) e))
    exact h G _ ⟨fun b o n e => kp b o (fun z => n (by simp [z])) e, rfl, rfl, Nat.le_refl _⟩ ⟨fun _ _ e => e, hG, rfl⟩ (q.up (fun o e => kp a o hne e) fun _ _ e => e)
  | c :: r, i, G, l, s, hd, q, hit, hG, h0, hb, h => by
    obtain ⟨hx, hd2⟩ := PySem.Froz.at_of hd
    have hb2 : l.length + (r.length + 1) < scanBound := hb
    refine codeAny_builtin F.entry_set_update_loop ?_
    rw [Around.under_plainId F.plain_set_update_loop _]
    show wpAny _ A.in1 (pyNext (.ref it) >>= _) _ _ s
    refine wpAny_bind (PySem.Froz.next_x (u := u) hit hx ?_)
    show wpAny _ A.in1 (holding [Value.str (tx [c]) s.toks] (setAdd a (.str (tx [c]) s.toks)) >>= _) _ _ _
    unfold setAdd
    refine wpAny_bind (wpAny_holding (wpAny_holding (wpAny_bind ((strKind P w).pyHash (k := tx [c]) (PySem.Froz.is_str _ _) ?_))))
    have t1 := Tks.one (c := c) (k := s.toks + 1 + 1) hG h0 (by omega)
    have k1 : ∀ b o, b ≠ it → s.heap.get? b = some o → (s.heap.update it (fun _ => PySem.Froz.itObj x u (i + 1))).get? b = some o := fun b o n e => PySem.Heap.get?_update_of_ne _ (Ne.symm n) e
    have q1 := q.up (fun o e => k1 a o hne e) t1.up
    refine add_q (s := { s with heap := s.heap.update it (fun _ => PySem.Froz.itObj x u (i + 1)), toks := s.toks + 1 + 1 }) (u := s.toks) q1 (by omega) (if_pos rfl) fun h' b sb q2 => ?_
    have hit2 : h'.get? it = some (PySem.Froz.itObj x u (i + 1)) := (sb.2 it (Ne.symm hne)).trans (PySem.Froz.get_upd _ hit rfl)
    refine wpAny_pure ⟨plainId_quiet F.plain_set_update_loop _, loop_q hne hh r (i + 1) _ _ { s with heap := h', toks := s.toks + 1 + 1 } hd2 q2 hit2 t1.lt (Nat.succ_pos _) ?_ fun G' s' sb' t' q' => ?_⟩
    · split
      · omega
      · simp only [List.length_cons]; omega
    · refine h G' s' ⟨fun b o n e => sb'.heap b o n ?_, sb'.gens, sb'.os, Nat.le_trans (by show s.toks ≤ s.toks + 1 + 1; omega) sb'.toks⟩ ⟨fun t y e => t'.up t y (t1.up t y e), t'.lt, t'.z.trans t1.z⟩ q'
      exact (sb.2 b (fun z => n (by simp [z]))).trans (k1 b o (fun z => n (by simp [z])) e)
end
end Q
end

section
set_option Elab.async false
set_option linter.all false
set_option maxRecDepth 100000
/-! CoreS2: set(text), sorted(set). -/
namespace Q
open PySem PySem.Spec PyProof.Rows PySem.Builtin
section
variable {P : Program} {w : World} {A : Around} {E : Value → Shared → Prop} {s : Shared} {a it : Addr} {G G' : Nat → Option Tx} {l : List Str} {h h' : Heap}
abbrev set0 (w : World) : Obj := { cls := .type "set", dict := none, data := .set #[] 0 (.fresh 0 0 (!w.params.followText "set-order")) }
theorem set0_q {h : Heap} (hs : h.get? a = some (set0 w)) : SetQ P w G h a [] := by
  refine ⟨(#[], 0, .fresh 0 0 (!w.params.followText "set-order")), hs, PySem.Froz.TxOk.nil (by rfl), List.Pairwise.nil, ?_, fun e he => (by simp at he)⟩
  show _ ∨ (!w.params.followText "set-order") = true
  cases w.params.followText "set-order"
  · exact .inr rfl
  · exact .inl rfl
theorem code_new {v : Value} {Q₁ : Value → Shared → Prop} (h : Q₁ (.ref s.heap.objs.size) { s with heap := s.heap.push (set0 w) }) :
    codeAny (model P w) A (.call (.builtin "set.__new__") ⟨[.type "set", v], []⟩) (wants Q₁ E) s := by
  refine codeAny_of_tree ?_
  show wpAny _ A.in1 (do
    checkBuiltinCall "set.__new__" ⟨[.type "set", v], []⟩
    again (.builtin "set.__new__" ⟨[.type "set", v], []⟩)) _ _ s
  refine wpAny_bind (wpAny_of_eq (PySem.F.newCall_set_1 v) (wpAny_pure ⟨plainId_quiet PySem.F.plain_set_new _, codeAny_builtin PySem.F.entry_set_new ?_⟩))
  rw [Around.under_plainId PySem.F.plain_set_new _]
  unfold Builtin.«set.__new__» Builtin.Frozenset.newClass
  have hsub := sub_set_self
  obtain ⟨hp, g, d, tk, os⟩ := s
  dsimp only
  wp_walk
  refine wpAny_askSetting (wpAny_pure ?_)
  dsimp only
  simp only [newObj]
  exact wpAny_bind (wpAny_alloc (wpAny_pure (wpAny_pure h)))
theorem strIter_cases' (x : Tx) : ((tx x).cps.all (· < 128) = true ∧ strIterType (tx x) = "str_ascii_iterator") ∨ ((tx x).cps.all (· < 128) = false ∧ strIterType (tx x) = "str_iterator") := by
  unfold strIterType
  cases h : (tx x).cps.all (· < 128)
  · exact .inr ⟨rfl, by simp_all⟩
  · exact .inl ⟨rfl, by simp_all⟩
theorem strIter_small {x : Tx} (hx : ∀ c ∈ x, c < 128) : strIterType (tx x) = "str_ascii_iterator" := by
  rcases strIter_cases' x with ⟨_, z⟩ | ⟨e, _⟩
  · exact z
  · have : (tx x).cps.all (· < 128) = true := by
      rw [← Array.all_toList, List.all_eq_true]
      intro c hc
      simpa using hx c (by simpa [tx] using hc)
    rw [this] at e; cases e
set_option maxHeartbeats 3200000 in
/-- set(text) -/
theorem set_text {x : Tx} {u : Tok} {Q : Value → Shared → Prop} (hh : A.handled = none) (hx : ∀ c ∈ x, c < 128) (hl : x.length < 4000) (hG : ∀ t y, G t = some y → t < s.toks) (h0 : 0 < s.toks)
    (h : ∀ G' s' a, Sb [] s s' → Tks G s.toks G' s'.toks → s.heap.objs.size ≤ a → SetQ P w G' s'.heap a (signL x []) → Q (.ref a) s') : wpAny (model P w) A (call (.type "set") [.str (tx x) u]) Q E s := by
  obtain ⟨c, tl, hmro⟩ := PySem.F.called_set.mro
  have hmade := PySem.F.called_set.made
  have hsub := PySem.F.called_set.sub
  refine wpAny_call (codeAny_of_tree ?_)
  show wpAny _ _ (callAny (.type "set") _) _ _ _
  refine wpAny_pure ⟨Code.quiet_builtin _ (by decide +kernel), codeAny_builtin PySem.F.entry_type_call ?_⟩
  rw [Around.under_plain (weight_type_call_type "set" [.str (tx x) u] []) rfl]
  have h1 := PySem.F.called_set.notType
  have h2 := PySem.F.called_set.canCreate
  have hct := PySem.F.typeCall_set_1 (.str (tx x) u)
  repeat (any_goals (first | assumption | wp_step))
  refine codeAny_mono (code_new (v := .str (tx x) u) (E := E) (Q₁ := fun obj s₁ => obj = .ref s.heap.objs.size ∧ s₁ = { s with heap := s.heap.push (set0 w) }) ⟨rfl, rfl⟩) fun r s₁ hr => ?_
  cases r with
  | error e => exact hr
  | ok fl =>
    cases fl with
    | ret obj =>
      obtain ⟨rfl, rfl⟩ := hr
      have hS : (s.heap.push (set0 w)).get? s.heap.objs.size = some (set0 w) := Heap.get?_push_size _ rfl
      have hT : Shared.TypeIs { s with heap := s.heap.push (set0 w) } (.ref s.heap.objs.size) "set" := ⟨_, hS, rfl⟩
      have hli := PySem.F.called_set.init.lookup
      have hbi := PySem.F.called_set.init.bind (.ref s.heap.objs.size)
      repeat (any_goals (first | assumption | wp_step))
      refine codeAny_mono (codeAny_call_builtin (R := wants (fun r s₂ => r = .none ∧ Q (.ref s.heap.objs.size) s₂) E) PySem.F.called_set.init.plain PySem.F.entry_set_init (check_set_init_1 hT ?_)) fun r₂ s₂ hr₂ => ?_
      · have q1 := PySem.F.sub_str_set
        have q2 := PySem.F.sub_str_frozenset
        have q3 : (Value.type "str" == Value.type "dict") = false := by decide
        unfold Builtin.«set.__init__» noKeywords Builtin.Frozenset.updateFrom
        generalize hPI : pyIter = PI
        wp_walk
        subst hPI
        refine wpAny_pyIter_strU ?_
        refine wpAny_bind (wpAny_runValue ?_)
        rw [strIter_small hx]
        have sz : (s.heap.push (set0 w)).objs.size = s.heap.objs.size + 1 := Heap.size_push ..
        have old : ∀ b o, s.heap.get? b = some o → ((s.heap.push (set0 w)).push (PySem.Froz.itObj (tx x) u 0)).get? b = some o := fun b o e => Heap.get?_push_of_some _ (Heap.get?_push_of_some _ e)
        refine loop_q (P := P) (w := w) (a := s.heap.objs.size) (it := (s.heap.push (set0 w)).objs.size) (x := tx x) (u := u) (show s.heap.objs.size ≠ (s.heap.push (set0 w)).objs.size by rw [sz]; omega) (by first | exact hh | simp [hh]) x 0 G [] _ rfl (set0_q (Heap.get?_push_of_some _ hS)) (Heap.get?_push_size _ rfl) hG h0 (by simp only [List.length_nil]; unfold scanBound; omega) fun G' s' sb tk q => ?_
        show wpAny _ _ _ _ _ _
        refine wpAny_pure ?_
        show wpAny _ _ (ret Value.none) _ _ _
        refine wpAny_pure ⟨rfl, h G' s' _ ⟨fun b o _ e => sb.heap b o ?_ (old b o e), sb.gens, sb.os, sb.toks⟩ tk (Nat.le_refl _) q⟩
        have hb := Heap.lt_size e
        rw [sz]
        simp only [List.mem_cons, List.not_mem_nil, or_false, not_or]
        exact ⟨Nat.ne_of_lt hb, Nat.ne_of_lt (Nat.lt_succ_of_lt hb)⟩
      · cases r₂ with
        | error e => exact hr₂
        | ok fl₂ =>
          cases fl₂ with
          | ret r =>
            obtain ⟨rfl, hq⟩ := hr₂
            repeat (any_goals (first | assumption | wp_step))
          | _ => exact hr₂.elim
    | _ => exact hr.elim
end
end Q
end

section
set_option Elab.async false
set_option linter.all false
set_option maxRecDepth 100000
/-! CoreS3: sorted(set(text)) as an expression. -/
namespace Q
open PySem PySem.Spec PyProof.Rows PySem.Builtin
/-- texts of one sign, with their tokens -/
def SgnL (G : Nat → Option Tx) : List Nat → List Value → Prop
  | [], us => us = []
  | c :: r, us => ∃ u q, us = .str (tx [c]) u :: q ∧ G u = some [c] ∧ SgnL G r q
theorem sgnL_of {G : Nat → Option Tx} {us : List Value} {ss : List Str} (hS : StrsAre us ss) : (∀ v ∈ us, ∃ (c : Nat) (u : Tok), v = .str (tx [c]) u ∧ G u = some [c]) → ∃ ns : List Nat, SgnL G ns us ∧ ss = ns.map fun c => tx [c] := by
  induction hS with
  | nil => exact fun _ => ⟨[], rfl, rfl⟩
  | cons x t r ih =>
    intro h
    obtain ⟨ns, h1, h2⟩ := ih fun v hv => h v (List.mem_cons_of_mem _ hv)
    obtain ⟨c, u, e1, e2⟩ := h _ (List.mem_cons_self ..)
    cases e1
    exact ⟨c :: ns, ⟨_, _, rfl, e2, h1⟩, by rw [h2]; rfl⟩
theorem rise_of : ∀ (p : Nat) (ns : List Nat), risingS (tx [p]) (ns.map fun c => tx [c]) = true → (∀ c ∈ ns, p ≤ c) ∧ ns.Pairwise (· ≤ ·)
  | p, [], _ => ⟨by simp, List.Pairwise.nil⟩
  | p, c :: r, h => by
    have h : (!ltCps [c] [p] && risingS (tx [c]) (r.map fun c => tx [c])) = true := h
    rw [Bool.and_eq_true, ltCps_eq] at h
    obtain ⟨h1, h2⟩ := h
    obtain ⟨i1, i2⟩ := rise_of c r h2
    have hpc : p ≤ c := by
      have h1 : ¬ ([c] : List Nat) < [p] := by simpa using h1
      rcases Nat.lt_or_ge c p with z | z
      · exact absurd (List.Lex.rel z) h1
      · exact z
    refine ⟨fun d hd => ?_, List.pairwise_cons.mpr ⟨i1, i2⟩⟩
    rcases List.mem_cons.mp hd with z | z
    · rw [z]; exact hpc
    · exact Nat.le_trans hpc (i1 d z)
theorem rise_sort : ∀ (ns : List Nat), sortedS (ns.map fun c => tx [c]) = true → ns.Nodup → ns.Pairwise (· < ·)
  | [], _, _ => List.Pairwise.nil
  | c :: r, h, hn => by
    obtain ⟨i1, i2⟩ := rise_of c r h
    have : (c :: r).Pairwise (· ≤ ·) := List.pairwise_cons.mpr ⟨i1, i2⟩
    exact (this.and hn).imp fun ⟨a, b⟩ => Nat.lt_of_le_of_ne a b
section
variable {P : Program} {w : World} {A : Around} {E : Value → Shared → Prop} {s : Shared} {a it : Addr} {G G' : Nat → Option Tx} {l : List Str} {h h' : Heap}
theorem perm_nodup {α β : Type} [DecidableEq β] {f : α → β} {xs ys : List α} (h : xs.Perm ys) (n : (ys.map f).Nodup) : (xs.map f).Nodup := (h.map f).nodup_iff.mpr n
theorem txs_nodup {D : PySem.Froz.SD} {k : Nat} (F : PySem.Froz.TxOk P w D l) (hn : l.Nodup) (el : ∀ e ∈ D.1.toList, ∃ (c : Nat) (u : Tok), e.2 = .str (tx [c]) u ∧ G u = some [c]) : (D.1.toList.map fun e => strOf e.2).Nodup := by
  have sub : ∀ y ∈ l, y ∈ D.1.toList.map fun e => strOf e.2 := fun y hy => by
    obtain ⟨e, he, q⟩ := (F.mem y).mp hy
    obtain ⟨c, u, e1, _⟩ := el e he
    refine List.mem_map.mpr ⟨e, he, ?_⟩
    have q : Value.isStrOf y e.2 = true := q
    rw [e1] at q ⊢
    obtain ⟨t, z⟩ := Value.isStrOf_shape q
    cases z; rfl
  have len : (D.1.toList.map fun e => strOf e.2).length = l.length := by rw [List.length_map, Array.length_toList]; exact F.sz
  exact nodup_sub hn sub len
set_option maxHeartbeats 1000000 in
/-- sorted(..) of the set -/
theorem sorted_q {x : Tx} {Q : Value → Shared → Prop} (q : SetQ P w G s.heap a (signL x [])) (hh : A.handled = none) (hx : ∀ c ∈ x, c < 128) (h64 : (sgn x).length < 64)
    (h : ∀ s' p us n, (∀ b o, s.heap.get? b = some o → s'.heap.get? b = some o) → s'.gens = s.gens → s'.os = s.os → s.toks ≤ s'.toks → s.heap.objs.size ≤ p →
      s'.heap.get? p = some (seqObj "list" us n) → SgnL G (sgn x) us.toList → Q (.ref p) s') : wpAny (model P w) A (call (.builtin "sorted") [.ref a]) Q E s := by
  refine wp_toks ?_
  obtain ⟨D, ho, F, r, f, el⟩ := q
  have hn : (signL x []).Nodup := signL_nd x [] List.nodup_nil
  have nd := txs_nodup (k := 0) F hn el
  have mem : ∀ c : Nat, c ∈ sgn x ↔ tx [c] ∈ D.1.toList.map fun e => strOf e.2 := fun c => by
    rw [mem_sgn hx, show (c ∈ x ↔ tx [c] ∈ signL x []) by
      rw [signL_mem]
      constructor
      · exact fun z => .inr ⟨c, z, rfl⟩
      · rintro (z | ⟨d, hd, e⟩)
        · cases z
        · have e : [c] = [d] := tx_inj e
          rw [List.cons.inj e |>.1]; exact hd, F.mem]
    constructor
    · rintro ⟨e, he, z⟩
      refine List.mem_map.mpr ⟨e, he, ?_⟩
      have z : Value.isStrOf (tx [c]) e.2 = true := z
      obtain ⟨t, z⟩ := Value.isStrOf_shape z
      rw [z]; rfl
    · intro z
      obtain ⟨e, he, z⟩ := List.mem_map.mp z
      refine ⟨e, he, ?_⟩
      obtain ⟨d, u, e1, _⟩ := el e he
      rw [e1] at z ⊢
      have z : tx [d] = tx [c] := z
      rw [z]
      exact PySem.Froz.is_str _ _
  have szl : D.1.size < 64 := by
    have e1 : (D.1.toList.map fun e => strOf e.2).length = D.1.size := by rw [List.length_map, Array.length_toList]
    have e2 := nodup_le nd (m := (sgn x).map fun c => tx [c]) fun y hy => by
      obtain ⟨e, he, z⟩ := List.mem_map.mp hy
      obtain ⟨c, u, e3, _⟩ := el e he
      rw [e3] at z
      have z : tx [c] = y := z
      exact List.mem_map.mpr ⟨c, (mem c).mpr (z ▸ hy), z⟩
    rw [e1, List.length_map] at e2
    omega
  refine Calls.call_function_entry kind_sorted plain_sorted entry_sorted (args_sorted1 _) ?_
  unfold Builtin.«sorted»
  refine wpAny_bind (m := checkCount "sorted" 1 1 _) (wpAny_pure (wpAny_bind ?_))
  refine L2.collect_set (A := A.in1) hh ⟨_, ho, rfl, rfl⟩ F.fit (by unfold scanBound; omega) r f fun s1 vs k1 hz g1 o1 pm => ?_
  have hvl : vs.length = D.1.size := by rw [pm.length_eq, List.length_map, Array.length_toList]
  have hv : ∀ v ∈ vs, ∃ (c : Nat) (u : Tok), v = .str (tx [c]) u ∧ G u = some [c] := fun v hv => by
    obtain ⟨e, he, z⟩ := List.mem_map.mp (pm.mem_iff.mp hv)
    exact z ▸ el e he
  have hS := strsAre_map vs fun v hv' => let ⟨c, u, e, _⟩ := hv v hv'; ⟨_, _, e⟩
  refine wpAny_bind (wpAny_newList (wpAny_bind ?_) (by rw [hvl, sizeLine_eq]; omega))
  have hoL : (s1.heap.push (seqObj "list" vs.toArray 0)).get? s1.heap.objs.size = some (seqObj "list" vs.toArray 0) := Heap.get?_push_size _ rfl
  refine wpAny_holding (wpAny_call_entry slot_list_sort ⟨_, hoL, rfl⟩ entry_list_sort ?_ (args_list_sort _))
  refine list_sort_treeKAny strKind_oneLt hoL hS.keysOf (fun v1 v2 rest e => keyKind_strs (by rw [← e]; exact hS)) (by rw [hvl, sizeLine_eq]; omega) fun st' p1 p2 => ⟨_, rfl, wpAny_pure ⟨_, rfl, ?_⟩⟩
  obtain ⟨ss', z1, z2, z3⟩ := sorted_out_str hS p1 p2
  obtain ⟨n, hc⟩ := sortedHeap_at (vs := vs) (out := (arrOf st').map (·.2)) hoL
  have hp2 : ((arrOf st').map (·.2)).toList.Perm vs := by
    have e : ((arrOf st').map (·.2)).toList = (arrOf st').toList.map (·.2) := Array.toList_map
    rw [e]
    have z := (Array.perm_iff_toList_perm.mp p1).map (·.2)
    rw [pairsOf_toList, List.map_snd_zip (Nat.le_refl _)] at z
    exact z
  obtain ⟨ns, y1, y2⟩ := sgnL_of z1 fun v hv' => hv v (hp2.mem_iff.mp hv')
  have pe : (ns.map fun c => tx [c]).Perm (D.1.toList.map fun e => strOf e.2) := by
    rw [← y2]
    refine z2.trans ?_
    have z := pm.map strOf
    rw [List.map_map] at z
    exact z
  have nn : ns.Nodup := by
    have z := pe.nodup_iff.mpr nd
    rw [List.nodup_iff_pairwise_ne, List.pairwise_map] at z
    rw [List.nodup_iff_pairwise_ne]
    exact z.imp fun hne e => hne (by rw [e])
  have ens : ns = sgn x := rise_eq (rise_sort ns (y2 ▸ z3) nn) (sgn_rise x) fun c => by
    rw [mem c, ← pe.mem_iff, List.mem_map]
    exact ⟨fun z => ⟨c, z, rfl⟩, fun ⟨d, hd, e⟩ => by
      have e : [d] = [c] := tx_inj e
      rw [← (List.cons.inj e).1]; exact hd⟩
  subst ens
  intro tk
  refine h _ s1.heap.objs.size _ n (fun b o e => ?_) g1 o1 tk hz hc y1
  have q := k1 b o e
  have lt := Heap.lt_size q
  show (sortedHeap (s1.heap.push (seqObj "list" vs.toArray 0)) s1.heap.objs.size vs _).get? b = some o
  rw [sortedHeap_old (Nat.ne_of_lt lt) (by rw [size_push']; exact Nat.lt_succ_of_lt lt)]
  exact Heap.get?_push_of_some _ q
end
end Q
end

section
set_option Elab.async false
set_option linter.all false
set_option maxRecDepth 100000
/-! CoreS4: sorted(set(text)) keeps its IR. -/
namespace Q
open PySem PySem.Spec PyProof.Rows PySem.Builtin
section
variable {X : Fx} {C : Oracle} {g g' : Gh} {st st' : S} {s s' : Shared} {u w : Value} {Q : Value → Shared → Prop} {E : Value → Shared → Prop}
variable {a b d : IE} {ea eb ed : Expr} {pos pos2 p q : Pos}
theorem sgnL_rep {gc : GC} {g : Gh} {h : Heap} : ∀ {ns : List Nat} {us : List Value}, SgnL g.tk ns us → (∀ c ∈ ns, c < 128) → RepL gc g h (ns.map fun c => .str [c]) us
  | [], us, e, _ => by rw [show us = [] from e]; exact RepL.nil
  | c :: r, us, ⟨t, q, e, k, z⟩, hc => by
    rw [e]
    refine RepL.cons ?_ (sgnL_rep z fun d hd => hc d (List.mem_cons_of_mem _ hd))
    simp only [Rep]
    refine ⟨t, rfl, k, by show 1 ≤ LIM; decide, fun d hd => ?_⟩
    have := hc c (by simp)
    rw [List.mem_singleton.mp hd]
    omega
/-- new objects, new tokens -/
theorem SR.tks {G : Nat → Option Tx} (r : SR X g st s) (kp : ∀ b o, s.heap.get? b = some o → s'.heap.get? b = some o) (hg : s'.gens = s.gens) (os : s'.os = s.os) (t : Tks g.tk s.toks G s'.toks) (hk : s.toks ≤ s'.toks) :
    SR X { g with tk := G } st s' ∧ FrE X g st s { g with tk := G } st s' := by
  have mono : GMono g { g with tk := G } s.heap s'.heap := ⟨fun b o _ e => kp b o e, fun _ e => e, ⟨[], by simp⟩, t.up⟩
  refine r.step (g' := { g with tk := G }) (hp' := st.hp) os (by rw [hg]; exact r.bare) (Kp.of kp) (fun _ e => e) (fun _ e => .inl e) ⟨[], by simp, fun _ h => nomatch h⟩ t.up hk ?_
  refine ⟨fun b f => let ⟨o, e⟩ := r.gh.fzIn b f; ⟨o, kp b o e⟩, r.gh.thNd, r.gh.thFz, fun b f => let ⟨o, e⟩ := r.gh.thIn b f; ⟨o, kp b o e⟩, r.gh.thB, r.gh.len, fun i p v e1 e2 => ?_, t.z.trans r.gh.tk0, t.lt, Nat.lt_of_lt_of_le r.gh.tkPos hk⟩
  have q := r.gh.cell i p v e1 e2
  cases v with
  | lst xs =>
    obtain ⟨e, us, l, rr⟩ := q
    exact ⟨e, us, l.mono fun o z => kp _ o z, RepL.mono mono rr⟩
  | non => trivial
  | _ => exact q
theorem boot_set : bootBuiltins ("set" : Str) = some (.type "set") := by decide +kernel
theorem boot_sorted : bootBuiltins ("sorted" : Str) = some (.builtin "sorted") := by decide +kernel
theorem Sb.all {s1 : Shared} (b : Sb [] s s1) : ∀ c o, s.heap.get? c = some o → s1.heap.get? c = some o := fun c o e => b.heap c o (fun z => nomatch z) e
theorem Tks.mono {G G' : Nat → Option Tx} {n k m : Nat} (t : Tks G n G' k) (h : k ≤ m) : Tks G n G' m := ⟨t.up, fun i x e => Nat.lt_of_lt_of_le (t.lt i x e) h, t.z⟩
theorem es_sset (ha : ESd X C a ea) (hs : noStar ea = true) (hg1 : Gl X "sorted") (hm1 : X.gc.mg "sorted" = none) (hg2 : Gl X "set") (hm2 : X.gc.mg "set" = none) :
    ESd X C (.sset a) (.Call (.Name "sorted" p) [.Call (.Name "set" q) [ea] [] pos2] [] pos) := ⟨fun g st s Q E r h => by
  rw [ev] at h; simp only [KR_bind] at h
  have hs2 : noStar (.Call (.Name "set" q) [ea] [] pos2) = true := rfl
  refine wpAny_Call_Name_kw (ld_blt r hg1 hm1 boot_sorted ?_ (by decide) (by decide))
  refine PyProof.Rows.callWith_builtin1 ?_ (star_cons hs2) rfl
  rw [star_cons hs2]
  refine Calls.spliced_cons ?_
  refine wpAny_Call_Name_kw (ld_blt r hg2 hm2 boot_set ?_ (by decide) (by decide))
  refine PyProof.Rows.callWith_type1 ?_ (star_cons hs) rfl
  rw [star_cons hs]
  refine Calls.spliced_cons (ha.run g st s _ _ r (h.mono fun x st1 h g1 s1 u r1 f1 t1 => Calls.spliced_nil ?_))
  obtain ⟨z, e, h⟩ := KR_ofO h
  have l := t1.look r1
  obtain ⟨v, md⟩ := x
  cases v with
  | str x =>
    simp only [RepB, Rep] at l
    obtain ⟨t, rfl, _, _⟩ := l
    unfold ssetX at e
    dsimp only at e
    split at e
    case isFalse => cases e
    rename_i hx
    cases e
    refine set_text (G := g1.tk) r1.ok.hd hx.1 hx.2.1 r1.gh.tkLt r1.gh.tkPos fun G' s2 b sb tk hb sq => Calls.spliced_nil ?_
    refine sorted_q sq r1.ok.hd hx.1 hx.2.2 fun s3 c us n k1 k2 k3 k4 k5 k6 k7 => ?_
    obtain ⟨r3, f3⟩ := r1.tks (s' := s3) (fun b o e => k1 b o (sb.all b o e)) (k2.trans sb.gens) (k3.trans sb.os) (tk.mono k4) (Nat.le_trans sb.toks k4)
    have hn : s1.heap.get? c = none := by
      cases q : s1.heap.get? c with
      | none => rfl
      | some o => exact absurd (Heap.lt_size (sb.all c o q)) (Nat.not_lt.mpr k5)
    refine h _ s3 (.ref c) r3 (f1.trans f3) ⟨c, _, us.toList, rfl, rfl, ⟨?_, n, ?_⟩, sgnL_rep (g := { g1 with tk := G' }) k7 ?_, fun z => some_ne (r1.gh.fzIn c z) hn, fun z => some_ne (r1.gh.thIn c z) hn, r1.h0none hn, f1.kp.none hn, fun o => ?_⟩
    · have := (sgnL_rep (gc := X.gc) (g := { g1 with tk := G' }) (h := s3.heap) k7 fun c hc => hx.1 c ((mem_sgn hx.1 c).1 hc)).length
      rw [this, List.length_map]
      have : (64 : Nat) ≤ LIM := by decide
      omega
    · rw [k6]
    · exact fun c hc => hx.1 c ((mem_sgn hx.1 c).1 hc)
    · obtain ⟨us, l⟩ : ∃ us, LstAt s1.heap c us := by
        obtain ⟨i, v, e, a0⟩ := f3.own c o
        obtain ⟨u0, a1, b, xs, us, rfl, _, l, _⟩ := r1.slot i v true e a0.vis
        have := a1.inj a0
        cases this
        exact ⟨us, l⟩
      obtain ⟨_, n, e⟩ := l
      rw [hn] at e; cases e
  | _ => cases e⟩
end
end Q
end

section
set_option Elab.async false
set_option linter.all false
set_option maxRecDepth 100000
/-! Core12: what a def promises; calls of defs; the entry of a def. -/
namespace Q
open PySem PySem.Spec PyProof.Rows PySem.Builtin

/-- what a callee wants -/
structure CallOk (gc : GC) (A : Around) (outer : List Env) (g : Gh) (hp : List AV) (s : Shared) : Prop where
  frames : A.frames = some outer
  mod : L2.Mod gc.K gc.mg gc.base
  bk : NoneBooked gc.base
  base : ∀ a o, gc.base.get? a = some o → s.heap.get? a = some o
  bare : AllBare s.gens
  funs : s.heap.FunFrames gc.base outer
  gh : GhOk gc g hp s
  fzF : ∀ L ∈ L2.frs outer, ¬ g.fz L
  muF : ∀ L ∈ L2.frs outer, ¬ g.mu L
  frD : ∀ L ∈ L2.frs outer, ∃ m, s.heap.Ns L m
/-- what a callee leaves -/
structure CallEnd (gc : GC) (outer : List Env) (g : Gh) (s : Shared) (g' : Gh) (hp' : List AV) (s' : Shared) : Prop where
  os : s'.os = s.os
  bare : AllBare s'.gens
  kp : Kp g.mu (L2.frs outer) s.heap s'.heap
  fz : ∀ a, g.fz a → g'.fz a
  fzNew : ∀ a, g'.fz a → g.fz a ∨ s.heap.get? a = none
  th : ∃ more, g'.th = g.th ++ more ∧ ∀ p ∈ more, Nw s.heap p
  tk : ∀ t x, g.tk t = some x → g'.tk t = some x
  toks : s.toks ≤ s'.toks
  gh : GhOk gc g' hp' s'
/-- the value -/
def RV (gc : GC) (s : Shared) (g' : Gh) (s' : Shared) : Bool → AV → Value → Prop
  | false, v, u => Rep gc g' s'.heap v u
  | true, v, u => ∃ a xs us, u = .ref a ∧ v = .lst xs ∧ LstAt s'.heap a us ∧ RepL gc g' s'.heap xs us ∧ ¬ g'.fz a ∧ ¬ g'.mu a ∧ s.heap.get? a = none
def FRok (r : FR) (ok : AV → Bool → List AV → Prop) : Prop :=
  match r with
  | .ok v f hp => ok v f hp
  | _ => False
/-- a def keeps what F says -/
def FnQ (gc : GC) (k : Nat) (f : Addr) (F : List AV → List AV → FR) : Prop :=
  ∀ (A : Around) (outer : List Env) (s : Shared) (g : Gh) (hp : List AV) (vs : List AV) (us : List Value) (R : Result → Shared → Prop), L2.Room k A → CallOk gc A outer g hp s → RepL gc g s.heap vs us →
    FRok (F vs hp) (fun v fr hp' => ∀ g' s' u, CallEnd gc outer g s g' hp' s' → RV gc s g' s' fr v u → R (.ok (.ret u)) s') →
    codeAny (model gc.P gc.w) A (.call (.ref f) ⟨us, []⟩) R s
theorem FnQ.up {gc : GC} {k j : Nat} {f : Addr} {F : List AV → List AV → FR} (h : FnQ gc k f F) (hk : k ≤ j) : FnQ gc j f F := fun A outer s g hp vs us R hr => h A outer s g hp vs us R (hr.mono hk)
/-- a def of the module -/
def Cal (gc : GC) (k : Nat) (f : String) (F : List AV → List AV → FR) : Prop := ∃ a, gc.mg (Str.ofString f) = some (.ref a) ∧ PySem.W.keepIn gc.K (.ref a) = true ∧ FnQ gc k a F

section
variable {X : Fx} {C : Oracle} {g g' : Gh} {st st' : S} {s s' : Shared} {u w : Value} {Q : Value → Shared → Prop} {E : Value → Shared → Prop}
variable {a b d : IE} {ea eb ed : Expr} {pos : Pos}
theorem SR.callOk (r : SR X g st s) : CallOk X.gc X.A X.stack g st.hp s := ⟨r.ok.frames, r.ok.mod, r.ok.bk, r.base, r.bare, r.funs, r.gh, r.fzF, r.muF, r.frD⟩
theorem SR.after {hp' : List AV} (r : SR X g st s) (e : CallEnd X.gc X.stack g s g' hp' s') : SR X g' { st with hp := hp' } s' ∧ FrE X g st s g' { st with hp := hp' } s' :=
  r.step e.os e.bare e.kp e.fz e.fzNew e.th e.tk e.toks e.gh
theorem run_fn {f : Addr} {F : List AV → List AV → FR} {vs : List AV} {us : List Value} (h : FnQ X.gc X.k f F) (r : SR X g st s) (q : RepL X.gc g s.heap vs us)
    (hq : FRok (F vs st.hp) fun v fr hp' => EQ X g st s Q (v, mdOf fr) { st with hp := hp' }) : wpAny (model X.gc.P X.gc.w) X.A (call (.ref f) us) Q E s := by
  refine wpAny_call (h X.A X.stack s g st.hp vs us _ r.ok.room r.callOk q ?_)
  cases e : F vs st.hp with
  | ok v fr hp' =>
    rw [e] at hq
    intro g' s' u ce rv
    obtain ⟨r', f'⟩ := r.after ce
    refine hq g' s' u r' f' ?_
    cases fr with
    | false => exact rv
    | true =>
      obtain ⟨a, xs, us, e1, e2, l, q, nf, nm, hn⟩ := rv
      exact ⟨a, xs, us, e1, e2, l, q, nf, nm, r.h0none hn, hn, fun o => some_ne (r.ownIn (f'.own _ o)) hn⟩
  | stuck => rw [e] at hq; exact hq.elim
  | exc x hp => rw [e] at hq; exact hq.elim
theorem call_kr {f : String} {vs : List AV} {st2 : S} (h : KR (match C f vs st2.hp with
    | .ok v fresh hp => .ok (v, mdOf fresh) { st2 with hp := hp }
    | .exc x hp => .exc x { st2 with hp := hp }
    | .stuck => .stuck) (EQ X g st s Q)) : FRok (C f vs st2.hp) fun v fr hp' => EQ X g st s Q (v, mdOf fr) { st2 with hp := hp' } := by
  cases e : C f vs st2.hp with
  | ok v fr hp => rw [e] at h; exact h
  | stuck => rw [e] at h; exact h.elim
  | exc x hp => rw [e] at h; exact h.elim
theorem FRok.mono {r : FR} {ok ok' : AV → Bool → List AV → Prop} (h : FRok r ok) (m : ∀ v f hp, ok v f hp → ok' v f hp) : FRok r ok' := by
  cases r with
  | ok v f hp => exact m v f hp h
  | _ => exact h
theorem es_call {f : String} {is : List IE} {e : Expr} {es : List Expr} {p : Pos} (O : Cal X.gc X.k f (C f)) (hb : EAd X C is (e :: es)) (hs : (e :: es).all noStar = true) (hg : Gl X (Str.ofString f)) (hdb : (Str.ofString f == ("__debug__" : Str)) = false) :
    ESd X C (.call f is) (.Call (.Name (Str.ofString f) p) (e :: es) [] pos) := ⟨fun g st s Q E r h => by
  rw [ev] at h; simp only [KR_bind] at h
  obtain ⟨fa, hm, hk, hf⟩ := O
  refine wpAny_Call_Name_kw (ld_glob r hg hm ?_ hdb)
  rw [List.all_cons, Bool.and_eq_true] at hs
  exact PySem.W.callWith_K (h₀ := X.gc.base) r.ok.mod.kin hk (hb.run pos g st s _ _ r (h.mono fun vs st2 h g2 s2 us r2 f2 q2 => ⟨kIn r2, run_fn hf r2 q2 ((call_kr h).mono fun v fr hp' h => EQ.from f2 h)⟩)) (star_cons hs.1) (star_all hs.2)⟩
theorem es_call0 {f : String} {p : Pos} (O : Cal X.gc X.k f (C f)) (hg : Gl X (Str.ofString f)) (hdb : (Str.ofString f == ("__debug__" : Str)) = false) :
    ESd X C (.call f []) (.Call (.Name (Str.ofString f) p) [] [] pos) := ⟨fun g st s Q E r h => by
  rw [ev, evs] at h; simp only [KR_bind] at h
  obtain ⟨fa, hm, hk, hf⟩ := O
  refine wpAny_Call_Name_kw (ld_glob r hg hm ?_ hdb)
  exact PySem.W.callWith_K0 (kIn r) hk (run_fn hf r RepL.nil ((call_kr (vs := []) h).mono fun v fr hp' h => h))⟩
end

/-! ### statements -/
def SQ (X : Fx) (g : Gh) (s : Shared) (Q : Flow → Shared → Prop) : Fl → S → Prop := fun f st' => ∀ g' s', SR X g' st' s' → StE X g s g' s' →
  match f with
  | .nx => Q .next s'
  | .bk => Q .brk s'
  | .ct => Q .cont s'
  | .rt v md => ∀ u, RepT X X.h0 g' st' s' md v u → Q (.ret u) s'
structure SSd (X : Fx) (C : Oracle) (is : List IS) (ss : List Stmt) : Prop where
  run : ∀ (g : Gh) (st : S) (s : Shared) (Q : Flow → Shared → Prop) (E : Value → Shared → Prop), SR X g st s → KR (exs C is st) (SQ X g s Q) → wpAny (model X.gc.P X.gc.w) X.A (execs ss X.env) Q E s
structure S1d (X : Fx) (C : Oracle) (i : IS) (t : Stmt) : Prop where
  run : ∀ (g : Gh) (st : S) (s : Shared) (Q : Flow → Shared → Prop) (E : Value → Shared → Prop), SR X g st s → KR (ex C i st) (SQ X g s Q) → wpAny (model X.gc.P X.gc.w) X.A (exec t X.env) Q E s
theorem SQ.from {X : Fx} {g g' : Gh} {s s' : Shared} {Q : Flow → Shared → Prop} (f : StE X g s g' s') {a : Fl} {st : S} (h : SQ X g s Q a st) : SQ X g' s' Q a st := fun g2 s2 r2 f2 => h g2 s2 r2 (f.trans f2)

/-! ### the entry -/
def fxOf (gc : GC) (N : List Str) (qual : Str) (scope : Scope) (f : Addr) (cd : Value) (A : Around) (outer : List Env) (h : Heap) (k : Nat) : Fx where
  gc := gc
  A := A.deeper (envOfC qual scope h.objs.size f cd)
  N := N
  env := envOfC qual scope h.objs.size f cd
  stack := envOfC qual scope h.objs.size f cd :: outer
  h0 := h
  fn := fun _ => true
  k := k
theorem frs_cons {env : Env} {l : List Env} {L : Addr} (h : env.frame = some L) : L2.frs (env :: l) = L :: L2.frs l := by
  unfold L2.frs
  rw [List.filterMap_cons, h]
theorem start_sr {gc : GC} {N ps : List Str} {qual : Str} {scope : Scope} {f : Addr} {cd : Value} {A : Around} {outer : List Env} {s s1 : Shared} {g : Gh} {hp : List AV} {k : Nat} {us : List Value} {vs : List AV}
    (Sc : L2.FnScope N ps scope) (hr : L2.Room (k + 1) A) (e0 : CallOk gc A outer g hp s) (hl : vs.length = ps.length) (r : RepL gc g s.heap vs us) (ht : s.toks ≤ s1.toks)
    (x : InCallC s s.heap.objs.size (bindL (envOfC qual scope s.heap.objs.size f cd).kindOf (ps.zip us) fun _ => none) (cellsFrom (s.heap.objs.size + 1) scope.names []) (bindC (envOfC qual scope s.heap.objs.size f cd).kindOf (ps.zip us) fun _ => none) s1) :
    SR (fxOf gc N qual scope f cd A outer s.heap k) g (startS N.length vs hp) s1 ∧ StE (fxOf gc N qual scope f cd A outer s.heap k) g s g s1 := by
  have hpl : ps.length ≤ N.length := by have := congrArg List.length Sc.pre; rw [List.length_take] at this; omega
  obtain ⟨h1, tk, rfl, hk⟩ := x.done
  have fresh : ∀ a, s.heap.objs.size ≤ a → ¬ g.fz a ∧ ¬ g.mu a ∧ s.heap.get? a = none := fun a ha => by
    have hn : s.heap.get? a = none := Heap.get?_none_of_le ha
    exact ⟨fun z => some_ne (e0.gh.fzIn a z) hn, fun z => some_ne (e0.gh.thIn a z) hn, hn⟩
  have cge : ∀ y c, (cellsFrom (s.heap.objs.size + 1) scope.names []).lookup y = some c → s.heap.objs.size < c := fun y c h => x.above y c (PySem.mem_of_lookup h)
  have fok : FxOk (fxOf gc N qual scope f cd A outer s.heap k) := by
    refine ⟨e0.mod, Sc.kind, rfl, rfl, Sc.nd, fun y z c h1 h2 => name_of_addr x.apart (PySem.mem_of_lookup h1) (PySem.mem_of_lookup h2), fun y hy => ?_, fun y c h e => ?_, hr.deeper _, Around.frames_deeper e0.frames, fun a o e => ⟨o, e0.base a o e⟩, Heap.get?_none_of_le (Nat.le_refl _), e0.bk, fun y c _ _ h => Heap.get?_none_of_le (Nat.le_of_lt (cge y c h))⟩
    · have hy : scope.names.lookup y = some .cell ∨ scope.names.lookup y = some .free := hy
      rcases hy with hy | hy
      · exact L2.cell_has hy
      · exact absurd rfl (Sc.nofree _ (PySem.mem_of_lookup hy))
    · have lt := cge y c h
      have e : c = s.heap.objs.size := e
      rw [e] at lt
      exact Nat.lt_irrefl _ lt
  have frF : ∀ L ∈ L2.frs (fxOf gc N qual scope f cd A outer s.heap k).stack, ¬ g.fz L ∧ ¬ g.mu L := fun L hL => by
    have hL : L ∈ L2.frs (envOfC qual scope s.heap.objs.size f cd :: outer) := hL
    rw [frs_cons rfl] at hL
    rcases List.mem_cons.mp hL with e | e
    · subst e; exact ⟨(fresh _ (Nat.le_refl _)).1, (fresh _ (Nat.le_refl _)).2.1⟩
    · exact ⟨e0.fzF L e, e0.muF L e⟩
  have gl : ∀ {i v o}, (startS N.length vs hp).get i = some (v, o) → o = false ∧ vs[i]? = some v ∧ i < ps.length := fun {i v o} e => by
    unfold startS S.get at e
    dsimp only at e
    by_cases hi : i < vs.length
    · rw [List.getElem?_append_left (by simpa using hi), List.getElem?_map] at e
      cases ev : vs[i]? with
      | none => rw [ev] at e; cases e
      | some a => rw [ev] at e; cases e; exact ⟨rfl, rfl, by omega⟩
    · rw [List.getElem?_append_right (by simpa using hi), List.getElem?_replicate] at e
      split at e <;> cases e
  have mono : GMono g g s.heap h1 := ⟨fun b o _ e => hk b o e, fun _ e => e, ⟨[], by simp⟩, fun _ _ e => e⟩
  refine ⟨⟨fok, e0.bare, fun a o e => hk a o (e0.base a o e), fun a o e => ⟨o, hk a o e⟩, ?_, ⟨_, x.toInCall.ns⟩, fun y c h => ⟨_, x.cell y c h⟩, e0.gh.ext hk ht, (fresh _ (Nat.le_refl _)).1, fun y c h => (fresh _ (Nat.le_of_lt (cge y c h))).1, fun L hL => (frF L hL).1,
    (fresh _ (Nat.le_refl _)).2.1, fun y c h => (fresh _ (Nat.le_of_lt (cge y c h))).2.1, fun L hL => (frF L hL).2, fun i v o e hv => ?_, fun i j v w u e1 e2 a1 a2 => ?_, ?_, fun L hL => ?_⟩, ?_⟩
  · refine Heap.FunFrames.cons (by rw [show (envOfC qual scope s.heap.objs.size f cd).scope.kind = .function from Sc.kind]; decide) rfl x.toInCall.ns ?_ ?_
    · show gc.base.get? s.heap.objs.size = none
      cases q : gc.base.get? s.heap.objs.size with
      | none => rfl
      | some o => exact absurd (Heap.lt_size (e0.base _ o q)) (Nat.lt_irrefl _)
    · exact funs_slots e0.funs fun L hL o e => ⟨o.slots, hk L o e⟩
  · obtain ⟨rfl, ev, hi⟩ := gl e
    obtain ⟨y, h1, hvis⟩ := hv
    obtain ⟨u, hu, rv⟩ := r.get ev
    have hp : ps[i]? = some y := by
      rw [← Sc.pre, List.getElem?_take_of_lt (by omega)]; exact h1
    have ndP : ps.Nodup := by rw [← Sc.pre]; exact Sc.nd.sublist (List.take_sublist _ _)
    refine ⟨u, ⟨y, h1, hvis, _, x.toInCall.ns, ?_⟩, Rep.mono mono rv⟩
    rcases Sc.par y (List.mem_of_getElem? hp) with k | k
    · exact .inl ⟨k, L2.bindL_get ndP hp hu k⟩
    · obtain ⟨c, e⟩ := L2.cell_has (n := s.heap.objs.size + 1) k
      refine .inr ⟨.inl k, c, e, ?_⟩
      have q := x.cell y c e
      rw [L2.bindC_get ndP hp hu (by show scope.names.lookup y ≠ _; rw [k]; decide)] at q
      exact q
  · have := (gl e1).1
    cases this
  · unfold startS
    show _ = N.length
    rw [List.length_append, List.length_map, List.length_replicate]
    omega
  · have hL : L ∈ L2.frs (envOfC qual scope s.heap.objs.size f cd :: outer) := hL
    rw [frs_cons rfl] at hL
    rcases List.mem_cons.mp hL with e | e
    · subst e; exact ⟨_, x.toInCall.ns⟩
    · obtain ⟨m, n⟩ := e0.frD L e
      exact ⟨m, n.keeps hk⟩
  · exact ⟨rfl, mono, fun b o _ e _ _ => hk b o e, fun b o _ e _ => ⟨o.slots, hk b o e⟩, fun b o e => ⟨o, hk b o e⟩, fun _ e => .inl e, ⟨[], by simp, fun _ h => nomatch h⟩, ht, fun b o p => ⟨hk b o p.obj, p.cls, p.fz, p.mu, p.loc, p.cell, p.fr⟩⟩

theorem FRok_run {C : Oracle} {f : IFn} {vs hp : List AV} {ok : AV → Bool → List AV → Prop} (h : FRok (run C f vs hp) ok) : vs.length = f.np ∧
    KR (exs C f.body (startS f.nn vs hp)) fun fl st => match fl with
      | .rt v md => ok v (match md with | .fz => false | _ => true) st.hp
      | .nx => ok .non false st.hp
      | _ => False := by
  unfold run at h
  split at h
  · rename_i hl
    refine ⟨hl, ?_⟩
    cases e : exs C f.body (startS f.nn vs hp) with
    | stuck => rw [e] at h; exact h.elim
    | exc x s => rw [e] at h; exact h.elim
    | ok fl st =>
      rw [e] at h
      cases fl <;> first | exact h | exact h.elim
  · exact h.elim
/-- A DEF KEEPS ITS IR -/
theorem fn_of {gc : GC} {C : Oracle} {k : Nat} {f : Addr} {name qual : Str} {params : Arguments} {body : List Stmt} {scope : Scope} {dV kV doc pm cdv ct oc : Value} {an od : Option Addr}
    {osl : Array (Option Value)} {N ps : List Str} {ir : IFn} (lk : gc.K.lookup f = some ⟨oc, od, .func (PySem.W.fnOf name qual params body scope dV kV doc pm an cdv ct), osl⟩) (hcd : PySem.W.codeIn gc.K cdv qual = true) (Sc : L2.FnScope N ps scope)
    (hb : ∀ us : List Value, us.length = ps.length → bindArgs (PySem.W.fnOf name qual params body scope dV kV doc pm an cdv ct) ⟨us, []⟩ = pure (ps.zip us)) (hnp : ir.np = ps.length) (hnn : ir.nn = N.length)
    (hbody : ∀ X : Fx, X.gc = gc → X.N = N → X.env.scope = scope → X.k = k → (∀ x, X.fn x = true) → SSd X C ir.body body) : FnQ gc (k + 1) f (run C ir) := by
  intro A outer s g hp vs us R hr e0 q hR
  obtain ⟨hl, hR⟩ := FRok_run hR
  rw [hnp] at hl
  have KX : gc.K.In s.heap := e0.mod.kin.keeps e0.base
  have lim : s.heap.NoLimit := e0.mod.nolimit.keeps e0.base
  have hkind : ∀ y ∈ ps.zip us, scope.names.lookup y.1 = some .local ∨ (scope.names.lookup y.1 = some .cell ∧ ((cellsFrom (s.heap.objs.size + 1) scope.names []).lookup y.1).isSome = true) := fun ⟨n, v⟩ hy => by
    rcases Sc.par n (List.of_mem_zip hy).1 with q | q
    · exact .inl q
    · exact .inr ⟨q, PySem.W.cellsFrom_some _ _ _ (.inl q)⟩
  refine codeAny_call_function hr.depth (KX _ _ lk) rfl Sc.co Sc.gen rfl (PySem.W.codeRec_of KX hcd) ?_
  rw [hb us (by rw [q.length]; exact hl)]
  refine wpAny_pure (wp_toks ?_)
  refine wpAny_newFunctionEnv_cells Sc.kind hkind fun env he s1 x ht => ?_
  subst he
  refine ⟨lim.keeps x.toInCall.keep, codeAny_func ?_⟩
  obtain ⟨r1, f1⟩ := start_sr (f := f) (qual := qual) (cd := cdv) Sc hr e0 hl q ht x
  rw [hnn] at hR
  refine (hbody (fxOf gc N qual scope f cdv A outer s.heap k) rfl rfl rfl rfl (fun _ => rfl)).run g _ s1 _ _ r1 (hR.mono fun fl st' h g' s' r' f' => ?_)
  have ft := f1.trans f'
  have inFr : ∀ a, (∃ o, s.heap.get? a = some o) → a ∉ L2.frs outer → a ∉ L2.frs (fxOf gc N qual scope f cdv A outer s.heap k).stack := fun a ha hn hL => by
    have hL : a ∈ L2.frs (envOfC qual scope s.heap.objs.size f cdv :: outer) := hL
    rw [frs_cons rfl] at hL
    rcases List.mem_cons.mp hL with e | e
    · subst e
      exact some_ne ha (Heap.get?_none_of_le (Nat.le_refl _))
    · exact hn e
  have ce : CallEnd gc outer g s g' st'.hp s' := ⟨ft.os, r'.bare, ⟨fun a o e nm nf => ft.keep a o ⟨o, e⟩ e nm (inFr a ⟨o, e⟩ nf), fun a o e nm => ft.slot a o ⟨o, e⟩ e nm, ft.there⟩, ft.mono.fz, ft.fzNew, ft.th, ft.mono.tk, ft.toks, r'.gh⟩
  cases fl with
  | nx => exact h g' s' .none ce (rep_non (gc := gc) (g := g') (h := s'.heap))
  | bk => exact h.elim
  | ct => exact h.elim
  | rt v md =>
    intro u t
    refine h g' s' u ce ?_
    cases md with
    | fz => exact t
    | fr =>
      obtain ⟨a, xs, us, e1, e2, l, q, nf, nm, hlo, hn, no⟩ := t
      exact ⟨a, xs, us, e1, e2, l, q, nf, nm, hlo⟩
    | bo i =>
      obtain ⟨e, a0⟩ := t
      obtain ⟨u0, a1, b, xs, us, e1, e2, l, q, nf, nm, hlo⟩ := r'.slot i _ _ e a0.vis
      have := a1.inj a0
      subst this
      exact ⟨b, xs, us, e1, e2, l, q, nf, nm, hlo⟩
end Q
end

section
set_option Elab.async false
set_option linter.all false
set_option maxRecDepth 100000
/-! Core13: statements. -/
namespace Q
open PySem PySem.Spec PyProof.Rows PySem.Builtin

section
variable {X : Fx} {C : Oracle} {g g' : Gh} {st st' : S} {s s' : Shared} {u w : Value} {E : Value → Shared → Prop}
variable {a b d : IE} {ea eb ed : Expr} {pos : Pos}

theorem ss_nil : SSd X C [] [] := ⟨fun g st s Q E r h => by
  rw [exs] at h
  exact wpAny_execs_nil (h g s r StE.refl)⟩
theorem KR_exs {i : IS} {is : List IS} {ok : Fl → S → Prop} (h : KR (exs C (i :: is) st) ok) : KR (ex C i st) fun f st' => match f with
    | .nx => KR (exs C is st') ok
    | f => ok f st' := by
  rw [exs] at h
  cases e : ex C i st with
  | stuck => rw [e] at h; exact h
  | exc x s => rw [e] at h; exact h
  | ok f s' => rw [e] at h; cases f <;> exact h
theorem ss_cons {i : IS} {t : Stmt} {is : List IS} {ts : List Stmt} (h1 : S1d X C i t) (h2 : SSd X C is ts) : SSd X C (i :: is) (t :: ts) := ⟨fun g st s Q E r h => by
  refine wpAny_execs_cons (h1.run g st s _ _ r ((KR_exs h).mono fun f st1 h => ?_))
  cases f with
  | nx =>
    intro g1 s1 r1 f1
    exact h2.run g1 st1 s1 _ _ r1 (h.mono fun f st2 h => SQ.from f1 h)
  | bk => exact h
  | ct => exact h
  | rt v md => exact h⟩
theorem s_pass : S1d X C .pass (.Pass pos) := ⟨fun g st s Q E r h => by
  rw [ex] at h
  exact wpAny_Pass (h g s r StE.refl)⟩
theorem s_brk : S1d X C .brk (.Break pos) := ⟨fun g st s Q E r h => by
  rw [ex] at h
  exact wpAny_Break (h g s r StE.refl)⟩
theorem s_cnt : S1d X C .cnt (.Continue pos) := ⟨fun g st s Q E r h => by
  rw [ex] at h
  exact wpAny_Continue (h g s r StE.refl)⟩
theorem s_retN : S1d X C .retN (.Return none pos) := ⟨fun g st s Q E r h => by
  rw [ex] at h
  exact wpAny_Return_none (h g s r StE.refl .none (rep_non (gc := X.gc) (g := g) (h := s.heap)))⟩
theorem s_ret (ha : ESd X C a ea) : S1d X C (.ret a) (.Return (some ea) pos) := ⟨fun g st s Q E r h => by
  rw [ex] at h; simp only [KR_bind] at h
  exact wpAny_Return_some (ha.run g st s _ _ r (h.mono fun x st1 h g1 s1 u r1 f1 t1 => h g1 s1 r1 (f1.toSt r) u (t1.weak fun p e => r.h0none e)))⟩
/-- no comprehension -/
def noComp : Expr → Bool
  | .ListComp _ _ _ _ => false
  | .SetComp _ _ _ _ => false
  | .DictComp _ _ _ _ _ => false
  | _ => true
theorem swaps_of {e : Expr} (h : noComp e = true) (t : Option Expr) (l : Nat) (env : Env) : swapsWith e t l env = pure false := by
  cases e <;> first | rfl | cases h
theorem quiet (r : SR X g st s) : interactive X.env = false := by simp [interactive, r.ok.kind]
theorem s_expr (ha : ESd X C a ea) (hc : noComp ea = true) : S1d X C (.expr a) (.Expr ea pos) := ⟨fun g st s Q E r h => by
  rw [ex] at h; simp only [KR_bind] at h
  exact wpAny_Expr_any (ha.run g st s _ _ r (h.mono fun x st1 h g1 s1 u r1 f1 t1 => h g1 s1 r1 (f1.toSt r))) (quiet r) (swaps_of hc _ _ _)⟩
theorem s_ite {is js : List IS} {ts us : List Stmt} (ha : ETd X C a ea) (h1 : SSd X C is ts) (h2 : SSd X C js us) : S1d X C (.ite a is js) (.If ea ts us pos) := ⟨fun g st s Q E r h => by
  rw [ex] at h; simp only [KR_bind] at h
  refine wpAny_If (ha.run g st s _ _ r (h.mono fun x st1 h g1 s1 r1 f1 => ?_))
  cases x with
  | true => exact h1.run g1 st1 s1 _ _ r1 (h.mono fun f st2 h => SQ.from (f1.toSt r) h)
  | false => exact h2.run g1 st1 s1 _ _ r1 (h.mono fun f st2 h => SQ.from (f1.toSt r) h)⟩

/-! ### targets -/
def tgS : ITg → List Nat
  | .nm i => [i]
  | .tp is => is
/-- what a target changes -/
def TgE (X : Fx) (is : List Nat) (s s' : Shared) : Prop :=
  ∀ b o, s.heap.get? b = some o → b ≠ X.env.locals → (∀ i ∈ is, ∀ x c, X.N[i]? = some x → X.env.cells.lookup x = some c → c ≠ b) → s'.heap.get? b = some o
/-- a frozen value goes to a target -/
structure TGd (X : Fx) (t : ITg) (e : Expr) : Prop where
  run : ∀ (g : Gh) (st : S) (s : Shared) (v : AV) (u : Value) (st' : S) (Q : Unit → Shared → Prop) (E : Value → Shared → Prop), SR X g st s → Rep X.gc g s.heap v u → asgT t v false st = some st' →
    (∀ s', SR X g st' s' → StE X g s g s' → TgE X (tgS t) s s' → Q () s') → wpAny (model X.gc.P X.gc.w) X.A (assign e X.env u) Q E s
theorem tg_nm {i : Nat} {x : Str} (hi : X.N[i]? = some x) (hx : Own X x) : TGd X (.nm i) (.Name x pos) := ⟨fun g st s v u st' Q E r q e h => by
  cases e
  exact wpAny_assign_Name (store_ok2 r hi hx (own := false) q (fun z => nomatch z) fun s1 r1 f1 ⟨c, hs, hc⟩ => h s1 r1 f1 fun b o e n1 n2 => (hs.2 b (fun z => by
    rcases hc with hc | hc
    · exact n1 (z.trans hc)
    · exact n2 i (by simp [tgS]) x c hi hc z.symm)).trans e)⟩
/-- names one after another -/
def NmOk (X : Fx) : List Nat → List Expr → Prop
  | [], [] => True
  | i :: is, .Name x _ :: es => (X.N[i]? = some x ∧ Own X x) ∧ NmOk X is es
  | _, _ => False
theorem nm_len : ∀ {is : List Nat} {es : List Expr}, NmOk X is es → (assignEach es X.env).length = is.length ∧ (assignEach es X.env).findIdx? (·.1) = none
  | [], [], _ => ⟨rfl, rfl⟩
  | i :: is, .Name x p :: es, h => by
    obtain ⟨h1, h2⟩ := nm_len h.2
    refine ⟨?_, ?_⟩
    · show (assignEach es X.env).length + 1 = _
      rw [h1]; rfl
    · show List.findIdx? _ ((false, _) :: assignEach es X.env) = none
      rw [List.findIdx?_cons, h2]; rfl
theorem nm_put : ∀ (is : List Nat) (es : List Expr) (g : Gh) (st st' : S) (s : Shared) (vs : List AV) (us : List Value) (Q : Unit → Shared → Prop), NmOk X is es → SR X g st s → RepL X.gc g s.heap vs us → st.putAll is vs = some st' →
    (∀ s', SR X g st' s' → StE X g s g s' → TgE X is s s' → Q () s') → wpAny (model X.gc.P X.gc.w) X.A (assignInOrder ((assignEach es X.env).map (·.2)) us) Q E s := by
  intro is
  induction is with
  | nil =>
    intro es g st st' s vs us Q n r q e h
    cases es with
    | cons _ _ => exact n.elim
    | nil =>
      cases vs with
      | cons _ _ => cases e
      | nil =>
        have e1 : us = [] := by simpa only [RepL] using q
        subst e1
        cases e
        exact assignInOrder_nil (h s r StE.refl fun _ _ e _ _ => e)
  | cons i is ih =>
    intro es g st st' s vs us Q n r q e h
    cases es with
    | nil => exact n.elim
    | cons t es =>
      cases t with
      | Name x p =>
        cases vs with
        | nil => cases e
        | cons v vs =>
          simp only [RepL] at q
          obtain ⟨u, us, rfl, q1, q2⟩ := q
          show wpAny _ _ (assignInOrder (assign (.Name x p) X.env :: (assignEach es X.env).map (·.2)) (u :: us)) _ _ _
          refine assignInOrder_cons ((tg_nm (pos := p) n.1.1 n.1.2).run g st s v u _ _ _ r q1 rfl fun s1 r1 f1 k1 => ?_)
          exact ih es g _ st' s1 vs us Q n.2 r1 (RepL.mono f1.mono q2) e fun s2 r2 f2 k2 => h s2 r2 (f1.trans f2) fun b o e n1 n2 => k2 b o (k1 b o e n1 fun j hj => n2 j (by
            rw [List.mem_singleton.mp hj]; simp)) n1 fun j hj => n2 j (List.mem_cons_of_mem _ hj)
      | _ => exact n.elim
theorem tg_tp {is : List Nat} {es : List Expr} {k : Nat} (h : NmOk X is es) : TGd X (.tp is) (.Tuple es k pos) := ⟨fun g st s v u st' Q E r q e hq => by
  cases v with
  | tup xs =>
    rw [asgT_tp] at e
    split at e
    · rename_i hl
      simp only [Rep] at q
      obtain ⟨p, us, rfl, _, ⟨_, t, _⟩, q⟩ := q
      obtain ⟨h1, h2⟩ := nm_len h
      have hlen := q.length
      refine assign_Tuple_tuple r.ok.hd t (by rw [h1, List.size_toArray, hlen, hl]) h2 fun h' hx => ?_
      obtain ⟨r1, f1⟩ := r.ext (k := s.toks) (h' := h') (fun b o e => hx b o (Nat.ne_of_lt (Heap.lt_size e)) e) (Nat.le_refl _)
      exact nm_put is es _ _ _ _ _ _ _ h r1 (RepL.mono (f1.mono r) q) e fun s2 r2 f2 k2 => hq s2 r2 ((f1.toSt r).trans f2) fun b o e n1 n2 => k2 b o (hx b o (Nat.ne_of_lt (Heap.lt_size e)) e) n1 n2
    · cases e
  | _ => cases e⟩
/-- x = value -/
theorem asg_store {i : Nat} {x : Str} {md : Md} {v : AV} {st2 : S} {M : Model} {A : Around} {Q : Unit → Shared → Prop} (hi : X.N[i]? = some x) (hx : Own X x) {g1 : Gh} {st1 : S} {s1 : Shared} (r : SR X g st s) (r1 : SR X g1 st1 s1) (f1 : FrE X g st s g1 st1 s1) (t : RepT X s.heap g1 st1 s1 md v u)
    (e : asgM (.nm i) v md st1 = some st2) (h : ∀ g' s', SR X g' st2 s' → StE X g s g' s' → Q () s') : wpAny M A (storeName X.env x u) Q E s1 := by
  cases md with
  | fz =>
    cases e
    exact store_ok r1 hi hx (own := false) t (fun z => nomatch z) fun s2 r2 f2 => h g1 s2 r2 ((f1.toSt r).trans f2)
  | fr =>
    cases e
    obtain ⟨a, xs, us, e1, e2, l, q, nf, nm, hlo, hn, no⟩ := t
    refine store_ok r1 hi hx (own := true) ⟨a, xs, us, e1, e2, l, q, nf, nm, hlo⟩ (fun _ j w hj ej aj => ?_) fun s2 r2 f2 => h g1 s2 r2 ((f1.toSt r).trans f2)
    subst e1
    exact no ⟨j, w, ej, aj⟩
  | bo j =>
    cases e
    obtain ⟨g2, r2, f2, q2, m2⟩ := esc f1 r1 t
    exact store_ok (st := st1.frz j) r2 hi hx (own := false) q2 (fun z => nomatch z) fun s3 r3 f3 => h g2 s3 r3 ((f2.toSt r).trans f3)
theorem s_asg {i : Nat} {x : Str} {p : Pos} (hi : X.N[i]? = some x) (hx : Own X x) (ha : ESd X C a ea) (hc : swapsWith ea (some (.Name x p)) pos.line X.env = pure false) : S1d X C (.asg (.nm i) a) (.Assign [.Name x p] ea pos) := ⟨fun g st s Q E r h => by
  rw [ex] at h; simp only [KR_bind] at h
  refine wpAny_Assign_Name (ha.run g st s _ _ r (h.mono fun x st1 h g1 s1 u r1 f1 t1 => ?_)) hc
  obtain ⟨st2, e, h⟩ := KR_ofO h
  exact asg_store hi hx r r1 f1 t1 e fun g2 s2 r2 f2 => h g2 s2 r2 f2⟩
theorem RepT.tup {n : Heap} {md : Md} {xs : List AV} (r : SR X g st s) (t : RepT X n g st s md (.tup xs) u) : md = .fz := by
  cases md with
  | fz => rfl
  | fr => obtain ⟨a, ys, us, e1, e2, _⟩ := t; cases e2
  | bo i =>
    obtain ⟨e, a0⟩ := t
    obtain ⟨u0, a1, b, ys, us, e1, e2, _⟩ := r.slot i _ _ e a0.vis
    cases e2
/-- no tuple display -/
def noTup : Expr → Bool
  | .Tuple _ _ _ => false
  | _ => true
theorem stores_of {e t : Expr} (h : noTup e = true) (env : Env) : swappedStores [t] e env = pure none := by
  cases e <;> first | (cases h; done) | (cases t <;> rfl)
theorem s_asgT {is : List Nat} {es : List Expr} {k : Nat} {p : Pos} (hn : NmOk X is es) (ha : ESd X C a ea) (hc : noComp ea = true) (ht : noTup ea = true) : S1d X C (.asg (.tp is) a) (.Assign [.Tuple es k p] ea pos) := ⟨fun g st s Q E r h => by
  rw [ex] at h; simp only [KR_bind] at h
  have hsw : swapsWithSole [Expr.Tuple es k p] ea pos.line X.env = pure false := swaps_of hc (some (.Tuple es k p)) pos.line X.env
  refine wpAny_Assign_stores (ha.run g st s _ _ r (h.mono fun x st1 h g1 s1 u r1 f1 t1 => ?_)) hsw (stores_of ht _)
  obtain ⟨v, md⟩ := x
  obtain ⟨st2, e, h2⟩ := KR_ofO h
  cases v with
  | tup xs =>
    have hmd := t1.tup r1
    subst hmd
    show wpAny _ _ (assign (.Tuple es k p) X.env u) _ _ _
    exact (tg_tp (k := k) (pos := p) hn).run g1 st1 s1 _ u st2 _ _ r1 t1 e fun s2 r2 f2 _ => h2 g1 s2 r2 ((f1.toSt r).trans f2)
  | _ => cases md <;> cases e⟩
/-- x = a new list that others change too -/
theorem s_asgr {i : Nat} {x : Str} {p : Pos} (hi : X.N[i]? = some x) (hx : Own X x) (ha : ESd X C a ea) (hc : noComp ea = true) : S1d X C (.asgr i a) (.Assign [.Name x p] ea pos) := ⟨fun g st s Q E r h => by
  rw [ex] at h; simp only [KR_bind] at h
  refine wpAny_Assign_Name (ha.run g st s _ _ r (h.mono fun x st1 h g1 s1 u r1 f1 t1 => ?_)) (swaps_of hc _ _ _)
  obtain ⟨v, md⟩ := x
  obtain ⟨st2, e, h⟩ := KR_ofO h
  cases v with
  | lst xs =>
    cases md with
    | fr =>
      obtain ⟨g2, r2, f2, q2, _⟩ := r1.addRef t1
      have e : (⟨st1.sl.set i (some (.ref st1.hp.length, false)), st1.hp ++ [.lst xs]⟩ : S) = st2 := Option.some.inj e
      subst e
      exact store_ok r2 hi hx (own := false) (v := .ref st1.hp.length) q2 (fun z => nomatch z) fun s3 r3 f3 => h g2 s3 r3 (((f1.toSt r).trans f2).trans f3)
    | _ => cases e
  | _ => cases md <;> cases e⟩

/-! ### changes of lists -/
theorem set_ok {p : Addr} {us : List Value} {k : Int} {t : Tok} {j : Nat} {Q : Unit → Shared → Prop} (l : LstAt s.heap p us) (e : ixX us.length k = some j)
    (h : ∀ h', Heap.SameBut p s.heap h' → LstAt h' p (us.set j w) → Q () { s with heap := h' }) : wpAny (model X.gc.P X.gc.w) X.A (setItem (.ref p) (.int k t) w) Q E s := by
  obtain ⟨n, ho⟩ := lst_eq l
  have hz := ixX_small l.1 e
  have up : LstAt (s.heap.update p (Obj.mapSeq (·.setIfInBounds j w))) p (us.set j w) := by
    refine ⟨by rw [List.length_set]; exact l.1, n, ?_⟩
    rw [Heap.get?_update_self _ ho (by rw [L2.mapSeq_set] <;> rfl), L2.mapSeq_set]
  have fin := h _ (Heap.SameBut.update _ _ _) up
  unfold ixX at e
  by_cases h0 : 0 ≤ k
  · rw [if_pos h0] at e
    split at e
    · rename_i h2
      cases e
      exact PySem.W.ki_setAt ho h0 hz.2 (by rw [List.size_toArray]; exact h2) fin
    · cases e
  · rw [if_neg h0] at e
    split at e
    · rename_i h2
      have e := Option.some.inj e
      refine PySem.W.ki_setBack ho (by omega) (by rw [List.size_toArray]; exact h2) hz.1 ?_
      rw [List.size_toArray, e]
      exact fin
    · cases e
/-- the name's own value -/
theorem name_at {i : Nat} {x : Str} {Q : Value → Shared → Prop} (r : SR X g st s) (hN : X.N[i]? = some x) (a0 : At X s i u) (hd : (x == ("__debug__" : Str)) = false) (hcd : (x == ("__classdict__" : Str)) = false) (h : Q u s) :
    wpAny (model X.gc.P X.gc.w) X.A (eval (.Name x pos) X.env) Q E s := by
  obtain ⟨y, ey, hv, m, n, l⟩ := a0
  rw [hN] at ey; cases ey
  rcases l with ⟨hk, hm⟩ | ⟨hk, c, hc, hcell⟩
  · exact wpAny_Name (wpAny_loadName_local r.ok.kind hk n hm h) hd
  · rcases hk with hk | hk
    · exact wpAny_Name (wpAny_loadName_cell r.ok.kind hk hc hcell h) hd
    · exact wpAny_Name (wpAny_loadName_free r.ok.kind hk hc hcell h hcd) hd
theorem At.fr {i : Nat} (r : SR X g st s) (f : FrE X g st s g' st' s') (a0 : At X s i u) : At X s' i u :=
  a0.keep (fun o e => f.kp.slot _ o e r.muL) fun x c e o q => f.kp.slot _ o q (r.muC x c e)
/-- a changed list behind a slot: what is there -/
theorem list_at {i : Nat} {x : Str} (r : SR X g st s) (hN : X.N[i]? = some x) (hv : L2.Vis X.env.scope x) {k : AV} {o : Bool} (e : st.get i = some (k, o)) (hk : appOk st i = true) :
    ∃ p us, At X s i (.ref p) ∧ LstAt s.heap p us := by
  obtain ⟨u, a0, sv⟩ := r.slot i k o e ⟨x, hN, hv⟩
  rw [appOk_eq, e] at hk
  cases o with
  | true =>
    obtain ⟨p, xs, us, rfl, _, l, _⟩ := sv
    exact ⟨p, us, a0, l⟩
  | false =>
    cases k with
    | ref j =>
      rw [appOkG_r] at hk
      simp only [SlotV, Rep] at sv
      obtain ⟨p, ep, rfl⟩ := sv
      unfold isLst at hk
      split at hk
      · rename_i xs ex
        obtain ⟨_, us, l, _⟩ : CellR X.gc g s.heap (.lst xs) p := r.gh.cell _ p _ ep ex
        exact ⟨p.1, us, a0, l⟩
      · cases hk
    | _ => cases hk
theorem app_ok {i : Nat} {z : AV} {st2 : S} {p : Addr} {Q : Value → Shared → Prop} (r : SR X g st s) (a0 : At X s i (.ref p)) (q : Rep X.gc g s.heap z w) (e : app1 st i z = some st2)
    (h : ∀ s', SR X g st2 s' → StE X g s g s' → Q .none s') : wpAny (model X.gc.P X.gc.w) X.A (call (.builtin "list.append") [.ref p, w]) Q E s := by
  rw [app1_eq] at e
  have go : ∀ {us : List Value}, LstAt s.heap p us → us.length < LIM → (∀ h', Heap.SameBut p s.heap h' → LstAt h' p (us ++ [w]) → Q .none { s with heap := h' }) → wpAny (model X.gc.P X.gc.w) X.A (call (.builtin "list.append") [.ref p, w]) Q E s := fun {us} l hz k => by
    obtain ⟨n, ho⟩ := lst_eq l
    refine append_at ho (fun h' hs ho' => k h' hs ⟨by rw [List.length_append]; exact hz, n + 1, ?_⟩) (by rw [List.size_toArray, LIM_eq]; exact l.1)
    rw [ho']; simp
  cases e0 : st.get i with
  | none => rw [e0] at e; cases e
  | some c =>
    obtain ⟨v, o⟩ := c
    obtain ⟨u1, a1, sv⟩ := r.slot i v o e0 a0.vis
    have := a1.inj a0
    subst this
    rw [e0] at e
    cases o with
    | true =>
      obtain ⟨b, xs, us, e1, e2, l, qs, nf, nm, hlo⟩ := sv
      cases e1; subst e2
      rw [appG_l] at e
      split at e
      · rename_i hz
        cases e
        refine go l (by rw [qs.length]; exact hz) fun h' hs l' => ?_
        obtain ⟨r2, f2⟩ := r.mutOwn (t := s.toks) e0 a0 hs l' (qs.app (RepL.one q)) (Nat.le_refl _)
        exact h _ r2 f2
      · cases e
    | false =>
      cases v with
      | ref k =>
        rw [appG_r] at e
        simp only [SlotV, Rep] at sv
        obtain ⟨c, ec, e1⟩ := sv
        cases e1
        unfold appH at e
        split at e
        · rename_i xs ex
          split at e
          · rename_i hz
            cases e
            obtain ⟨_, us, l, qs⟩ : CellR X.gc g s.heap (.lst xs) c := r.gh.cell _ c _ ec ex
            refine go l (by rw [qs.length]; exact hz) fun h' hs l' => ?_
            obtain ⟨r2, f2⟩ := r.mutRef (t := s.toks) ec ex hs l' (qs.app (RepL.one q)) (Nat.le_refl _)
            exact h _ r2 (f2.toSt r)
          · cases e
        · cases e
      | _ => cases e
theorem s_app {i : Nat} {x : Str} {p apos : Pos} (hN : X.N[i]? = some x) (hv : L2.Vis X.env.scope x) (hd : (x == ("__debug__" : Str)) = false) (hcd : (x == ("__classdict__" : Str)) = false) (ha : ESd X C a ea) (hs : noStar ea = true) (hline : (apos.endLine == p.line) = true) {np : Pos} :
    S1d X C (.app i a) (.Expr (.Call (.Attribute (.Name x np) "append" apos) [ea] [] p) pos) := ⟨fun g st s Q E r h => by
  rw [ex] at h
  by_cases hk : appOk st i = true
  case neg => rw [if_neg hk] at h; exact h.elim
  rw [if_pos hk] at h
  simp only [KR_bind] at h
  refine wpAny_Expr_any ?_ (quiet r) (swaps_of rfl _ _ _)
  cases e0 : st.get i with
  | none =>
    rw [appOk_eq, e0] at hk
    cases hk
  | some c =>
    obtain ⟨v, o⟩ := c
    obtain ⟨q, us, a0, l⟩ := list_at r hN hv e0 hk
    obtain ⟨n, ho⟩ := lst_eq l
    have few : ((backTo p (starEach [ea] X.env)).all (fun x => !x.1) && (backToKw p (keywordEach [] X.env)).all (fun x => x.1.isSome)
        && decide (([ea] : List Expr).length + ([] : List Keyword).length + (if ([] : List Keyword).isEmpty then 0 else 1) < 30)) = true := by
      rw [star_cons hs]; rfl
    refine wpAny_Call_method_late rfl few hline rfl (name_at r hN a0 hd hcd ?_)
    refine ⟨"list", _, F.plainAttrs_list, F.slot_list_append, F.type_list_append, ⟨_, ho, rfl⟩, (fun a z => by cases z; exact ⟨_, ho, rfl⟩), ?_⟩
    rw [star_cons hs]
    refine Calls.callWith_builtin rfl (Calls.evalArgs_plain ?_)
    refine Calls.spliced_cons (ha.run g st s _ _ r (h.mono fun y st1 h g1 s1 w r1 f1 t1 => Calls.spliced_nil ?_))
    obtain ⟨st2, e, h⟩ := KR_ofO h
    obtain ⟨g2, r2, f2, q2, m2⟩ := esc f1 r1 t1
    exact app_ok r2 (a0.fr r f2) q2 e fun s3 r3 f3 => h g2 s3 r3 ((f2.toSt r).trans f3)⟩
end
end Q
end

section
set_option Elab.async false
set_option linter.all false
set_option maxRecDepth 100000
/-! Core14: iterators, for, while. -/
namespace Q
open PySem PySem.Spec PyProof.Rows PySem.Builtin

/-- what a turn of an iterator does -/
structure ItE (fp : List Addr) (g : Gh) (s : Shared) (g' : Gh) (s' : Shared) : Prop where
  os : s'.os = s.os
  keep : ∀ b o, b ∉ fp → s.heap.get? b = some o → s'.heap.get? b = some o
  fz : ∀ a, g.fz a → g'.fz a
  fzNew : ∀ a, g'.fz a → g.fz a ∨ s.heap.get? a = none
  th : g'.th = g.th
  tk : ∀ t x, g.tk t = some x → g'.tk t = some x
  toks : s.toks ≤ s'.toks
/-- an iterator's object -/
def Pn (X : Fx) (g : Gh) (s : Shared) (a : Addr) : Prop := (∃ o, Pin X g s a o) ∧ X.h0.get? a = none

/-- an object that the state relation says nothing of -/
structure NB (X : Fx) (g : Gh) (st : S) (s : Shared) (a : Addr) : Prop where
  fz : ¬ g.fz a
  mu : ¬ g.mu a
  loc : a ≠ X.env.locals
  cell : ∀ x c, X.env.cells.lookup x = some c → c ≠ a
  fr : a ∉ L2.frs X.stack
  ow : ¬ OwnA X st s a
  h0 : X.h0.get? a = none
theorem own_lst {X : Fx} {g : Gh} {st : S} {s : Shared} {a : Addr} (r : SR X g st s) (o : OwnA X st s a) : ∃ us, LstAt s.heap a us := by
  obtain ⟨i, v, e, a0⟩ := o
  obtain ⟨u0, a1, b, xs, us, rfl, _, l, _⟩ := r.slot i v true e a0.vis
  have := a1.inj a0
  cases this
  exact ⟨us, l⟩
theorem Pn.nb {X : Fx} {g : Gh} {st : S} {s : Shared} {a : Addr} (r : SR X g st s) (p : Pn X g s a) : NB X g st s a := let ⟨⟨o, p⟩, h⟩ := p; ⟨p.fz, p.mu, p.loc, p.cell, p.fr, fun ow => let ⟨us, l⟩ := own_lst r ow; p.cls (lst_cls l p.obj), h⟩

section
variable {X : Fx} {C : Oracle} {g g' g1 g2 : Gh} {st st' st1 : S} {s s' s1 s2 : Shared} {u w : Value} {E : Value → Shared → Prop} {fp : List Addr} {a : Addr}
theorem ItE.mono (e : ItE fp g s g' s') (h : ∀ b ∈ fp, ¬ g.fz b) : GMono g g' s.heap s'.heap :=
  ⟨fun b o f q => e.keep b o (fun z => h b z f) q, e.fz, ⟨[], by rw [e.th]; simp⟩, e.tk⟩
theorem SR.keepBut {h' : Heap} {k : Nat} (r : SR X g st s) (pn : ∀ b ∈ fp, NB X g st s b) (kp : ∀ b o, b ∉ fp → s.heap.get? b = some o → h'.get? b = some o) (hk : s.toks ≤ k) :
    SR X g st { s with heap := h', toks := k } := by
  have nfz : ∀ b ∈ fp, ¬ g.fz b := fun b hb => (pn b hb).fz
  have nmu : ∀ b ∈ fp, ¬ g.mu b := fun b hb => (pn b hb).mu
  have mono : GMono g g s.heap h' := ⟨fun b o f q => kp b o (fun z => nfz b z f) q, fun _ f => f, ⟨[], by simp⟩, fun _ _ e => e⟩
  have nl : X.env.locals ∉ fp := fun z => (pn _ z).loc rfl
  have nc : ∀ x c, X.env.cells.lookup x = some c → c ∉ fp := fun x c e z => (pn _ z).cell x c e rfl
  have nf : ∀ L ∈ L2.frs X.stack, L ∉ fp := fun L hL z => (pn _ z).fr hL
  have nb : ∀ b o, X.gc.base.get? b = some o → b ∉ fp := fun b o e z => some_ne (r.ok.loB b o e) (pn b z).h0
  have kl : ∀ o, s.heap.get? X.env.locals = some o → ∃ sl, ({ s with heap := h', toks := k } : Shared).heap.get? X.env.locals = some { o with slots := sl } := fun o e => ⟨o.slots, kp _ o nl e⟩
  have kc : ∀ x c, X.env.cells.lookup x = some c → ∀ o, s.heap.get? c = some o → ∃ sl, ({ s with heap := h', toks := k } : Shared).heap.get? c = some { o with slots := sl } := fun x c e o q => ⟨o.slots, kp c o (nc x c e) q⟩
  have back : ∀ {i v o u}, st.get i = some (v, o) → At X { s with heap := h', toks := k } i u → At X s i u := fun {i v o u} e q => by
    obtain ⟨u0, a0, _⟩ := r.slot i v o e q.vis
    exact ((a0.keep kl kc).inj q) ▸ a0
  refine ⟨r.ok, r.bare, fun b o e => kp b o (nb b o e) (r.base b o e), fun b o e => let ⟨o1, e1⟩ := r.ent b o e; ⟨o1, kp b o1 (fun z => some_ne ⟨o, e⟩ (pn b z).h0) e1⟩, funs_slots r.funs fun L hL o e => ⟨o.slots, kp L o (nf L hL) e⟩, ?_, fun x c e => ?_, ?_, r.fzL, r.fzC, r.fzF, r.muL, r.muC, r.muF, fun i v o e hv => ?_, fun i j v w u e1 e2 a1 a2 => r.dist i j v w u e1 e2 (back e1 a1) (back e2 a2), r.len, fun L hL => let ⟨m, n⟩ := r.frD L hL; ⟨m, Ns.slots n fun o e => ⟨o.slots, kp L o (nf L hL) e⟩⟩⟩
  · obtain ⟨m, n⟩ := r.ns
    exact ⟨m, Ns.slots n kl⟩
  · obtain ⟨v, z⟩ := r.cell x c e
    exact ⟨v, Cell.slots z (kc x c e)⟩
  · refine ⟨fun b f => let ⟨o, e⟩ := r.gh.fzIn b f; ⟨o, kp b o (fun z => nfz b z f) e⟩, r.gh.thNd, r.gh.thFz, fun b f => let ⟨o, e⟩ := r.gh.thIn b f; ⟨o, kp b o (fun z => nmu b z f) e⟩, r.gh.thB, r.gh.len, fun i p v e1 e2 => ?_, r.gh.tk0, fun t x e => Nat.lt_of_lt_of_le (r.gh.tkLt t x e) hk, Nat.lt_of_lt_of_le r.gh.tkPos hk⟩
    have q := r.gh.cell i p v e1 e2
    cases v with
    | lst xs =>
      obtain ⟨e, us, l, rr⟩ := q
      have hm : g.mu p.1 := ⟨p, List.mem_of_getElem? e1, e⟩
      exact ⟨e, us, l.mono fun o z => kp _ o (fun y => nmu _ y hm) z, RepL.mono mono rr⟩
    | non => trivial
    | _ => exact q
  · obtain ⟨u, a0, sv⟩ := r.slot i v o e hv
    refine ⟨u, a0.keep kl kc, ?_⟩
    cases o with
    | false => exact Rep.mono mono sv
    | true =>
      obtain ⟨b, xs, us, e1, e2, l, q, nf, nm, hlo⟩ := sv
      exact ⟨b, xs, us, e1, e2, l.mono fun o z => kp b o (fun y => (pn b y).ow ⟨i, v, e, e1 ▸ a0⟩) z, RepL.mono mono q, nf, nm, hlo⟩
theorem StE.it (f : StE X g s g1 s1) (r1 : SR X g1 st1 s1) (e : ItE fp g1 s1 g2 s2) (pn : ∀ b ∈ fp, Pn X g1 s1 b) (hn : ∀ b ∈ fp, s.heap.get? b = none) : StE X g s g2 s2 where
  os := e.os.trans f.os
  mono := f.mono.trans (e.mono fun b hb => let ⟨⟨o, p⟩, _⟩ := pn b hb; p.fz)
  keep a o h q n nf := e.keep a o (fun z => by rw [hn a z] at q; cases q) (f.keep a o h q n nf)
  slot a o h q n := by
    obtain ⟨sl, q1⟩ := f.slot a o h q n
    exact ⟨sl, e.keep a _ (fun z => by rw [hn a z] at q; cases q) q1⟩
  there a o q := let ⟨o1, q1⟩ := f.there a o q; ⟨o1, e.keep a o1 (fun z => by rw [hn a z] at q; cases q) q1⟩
  fzNew a h := by
    rcases e.fzNew a h with z | z
    · exact f.fzNew a z
    · refine .inr ?_
      cases q : X.h0.get? a with
      | none => rfl
      | some o => exact (some_ne (r1.ent a o q) z).elim
  th := let ⟨m, h1, h2⟩ := f.th; ⟨m, by rw [e.th]; exact h1, h2⟩
  toks := Nat.le_trans f.toks e.toks
  pin a o p := by
    have q := f.pin a o p
    have na : a ∉ fp := fun z => by
      have h := p.obj
      rw [hn a z] at h; cases h
    exact ⟨e.keep a o na q.obj, q.cls, fun z => (e.fzNew a z).elim q.fz fun z => (by rw [q.obj] at z; cases z), by unfold Gh.mu; rw [e.th]; exact q.mu, q.loc, q.cell, q.fr⟩
/-- the iterator's objects behind its turn -/
theorem Pn.it (e : ItE fp g s g' s') (ob : ∃ o, s'.heap.get? a = some o ∧ o.cls ≠ .type "list") (p : Pn X g s a) : Pn X g' s' a := by
  obtain ⟨⟨o, p⟩, h⟩ := p
  obtain ⟨o', e1, e2⟩ := ob
  exact ⟨⟨o', e1, NLst.of e2, fun z => (e.fzNew a z).elim p.fz fun z => (by rw [p.obj] at z; cases z), by unfold Gh.mu; rw [e.th]; exact p.mu, p.loc, p.cell, p.fr⟩, h⟩
theorem Pn.toSt (f : StE X g s g' s') (p : Pn X g s a) : Pn X g' s' a := let ⟨⟨o, p⟩, h⟩ := p; ⟨⟨o, f.pin a o p⟩, h⟩
end

/-- an iterator over xs -/
structure Iter (gc : GC) (tg : Expr) (xs : List AV) (it : Addr) (fp : List Addr) (T : Nat → Gh → Heap → Prop) : Prop where
  obj : ∀ i g h, T i g h → ∀ b ∈ fp, ∃ o, h.get? b = some o ∧ o.cls ≠ .type "list"
  keep : ∀ i g g' h h', T i g h → GMono g g' h h' → (∀ b ∈ fp, ∀ o, h.get? b = some o → h'.get? b = some o) → T i g' h'
  item : ∀ (X : Fx), X.gc = gc → ∀ (i : Nat) (x : AV) (g : Gh) (st : S) (s : Shared) (Q : Value → Shared → Prop) (E : Value → Shared → Prop), xs[i]? = some x → SR X g st s → T i g s.heap → (∀ b ∈ fp, Pn X g s b) →
    (∀ g' s' u, SR X g' st s' → ItE fp g s g' s' → Rep X.gc g' s'.heap x u → T (i + 1) g' s'.heap → Q u s') →
    wpAny (model X.gc.P X.gc.w) X.A (pyNext (.ref it)) (fun r s1 => ∃ u, r = some u ∧ wpAny (model X.gc.P X.gc.w) X.A (letOwnedTupleGo tg (.ref it) u) (fun _ s2 => Q u s2) E s1) E s
  done : ∀ (X : Fx), X.gc = gc → ∀ (g : Gh) (st : S) (s : Shared) (Q : Shared → Prop) (E : Value → Shared → Prop), SR X g st s → T xs.length g s.heap → (∀ b ∈ fp, Pn X g s b) →
    (∀ s', SR X g st s' → ItE fp g s g s' → Q s') → wpAny (model X.gc.P X.gc.w) X.A (pyNext (.ref it)) (fun r s1 => r = none ∧ Q s1) E s
  self : ∀ (A : Around) (i : Nat) (g : Gh) (s : Shared) (Q E : Value → Shared → Prop), T i g s.heap → Q (.ref it) s → wpAny (model gc.P gc.w) A (pyIter (.ref it)) Q E s

section
variable {gc : GC} {tg : Expr} {it p : Addr} {xs : List AV}
theorem sameBut_it {X : Fx} {g : Gh} {st : S} {s : Shared} {h' : Heap} {k : Nat} (r : SR X g st s) (hp : Pn X g s it) (hs : Heap.ExtBut it s.heap h') (hk : s.toks ≤ k) :
    SR X g st { s with heap := h', toks := k } ∧ ItE [it] g s g { s with heap := h', toks := k } := by
  have kp : ∀ b o, b ∉ [it] → s.heap.get? b = some o → h'.get? b = some o := fun b o n e => hs b o (fun z => n (by rw [z]; simp)) e
  exact ⟨r.keepBut (fp := [it]) (fun b hb => by rw [List.mem_singleton.mp hb]; exact hp.nb r) kp hk, ⟨rfl, kp, fun _ h => h, fun _ h => .inl h, rfl, fun _ _ e => e, hk⟩⟩
/-- new tokens alone -/
theorem ItE.tok {fp : List Addr} {g g' g2 : Gh} {s s' s2 : Shared} (e : ItE fp g s g' s') (os : s2.os = s'.os) (hh : s2.heap = s'.heap) (fz : g2.fz = g'.fz) (th : g2.th = g'.th) (tk : ∀ t x, g'.tk t = some x → g2.tk t = some x) (hk : s'.toks ≤ s2.toks) : ItE fp g s g2 s2 :=
  ⟨os.trans e.os, fun b o n q => by rw [hh]; exact e.keep b o n q, fun b z => by rw [fz]; exact e.fz b z, fun b z => e.fzNew b (by rw [← fz]; exact z), th.trans e.th, fun t x q => tk t x (e.tk t x q), Nat.le_trans e.toks hk⟩

def TL (it p : Addr) (us : List Value) (xs : List AV) (gc : GC) : Nat → Gh → Heap → Prop := fun i g h => h.IsListIter it p i ∧ g.fz p ∧ LstAt h p us ∧ RepL gc g h xs us
theorem iter_list {us : List Value} : Iter gc tg xs it [it] (TL it p us xs gc) where
  obj i g h t b hb := by
    rw [List.mem_singleton.mp hb]
    obtain ⟨⟨o, e, c, _⟩, _⟩ := t
    exact ⟨o, e, by rw [c]; decide⟩
  keep i g g' h h' t m k := by
    obtain ⟨⟨o, e, c, d⟩, f, l, q⟩ := t
    exact ⟨⟨o, k it (by simp) o e, c, d⟩, m.fz p f, l.mono fun o z => m.obj p o f z, RepL.mono m q⟩
  item X hX i x g st s Q E hx r t hp hq := by
    obtain ⟨ti, f, l, q⟩ := t
    subst hX
    obtain ⟨u, hu, ru⟩ := q.get hx
    refine wpAny_pyNext_list_item ti (isList_of l) (by simpa using hu) fun h' ti' hs => ?_
    obtain ⟨o, eo, co, dd⟩ := id ti'
    obtain ⟨r1, e1⟩ := sameBut_it (k := s.toks) r (hp it (by simp)) (fun b o n e => (hs.2 b n).trans e) (Nat.le_refl _)
    have m := e1.mono fun b hb => let ⟨⟨o, p⟩, _⟩ := hp b hb; p.fz
    refine ⟨u, rfl, L2.go_of eo co dd (by decide) (hq g _ u r1 e1 (Rep.mono m ru) ⟨ti', f, l.mono fun o z => m.obj p o f z, RepL.mono m q⟩)⟩
  done X hX g st s Q E r t hp hq := by
    obtain ⟨ti, f, l, q⟩ := t
    subst hX
    refine wpAny_pyNext_list_end r.ok.hd ti (isList_of l) (by simp [q.length]) fun h' hx => ?_
    obtain ⟨r1, e1⟩ := sameBut_it (k := s.toks) r (hp it (by simp)) hx (Nat.le_refl _)
    exact ⟨rfl, hq _ r1 e1⟩
  self A i g s Q E t h := wpAny_pyIter_listiter t.1 h

def TT (it p : Addr) (us : List Value) (xs : List AV) (gc : GC) : Nat → Gh → Heap → Prop := fun i g h => h.IsTupleIter it p i ∧ g.fz p ∧ TupAt h p us ∧ RepL gc g h xs us
theorem iter_tuple {us : List Value} : Iter gc tg xs it [it] (TT it p us xs gc) where
  obj i g h t b hb := by
    rw [List.mem_singleton.mp hb]
    obtain ⟨⟨o, e, c, _⟩, _⟩ := t
    exact ⟨o, e, by rw [c]; decide⟩
  keep i g g' h h' t m k := by
    obtain ⟨⟨o, e, c, d⟩, f, l, q⟩ := t
    exact ⟨⟨o, k it (by simp) o e, c, d⟩, m.fz p f, l.mono fun o z => m.obj p o f z, RepL.mono m q⟩
  item X hX i x g st s Q E hx r t hp hq := by
    obtain ⟨ti, f, l, q⟩ := t
    subst hX
    obtain ⟨u, hu, ru⟩ := q.get hx
    refine wpAny_pyNext_tuple_item ti (show s.heap.IsTuple p us.toArray from l.2.1) (by simpa using hu) fun h' ti' hs => ?_
    obtain ⟨o, eo, co, dd⟩ := id ti'
    obtain ⟨r1, e1⟩ := sameBut_it (k := s.toks) r (hp it (by simp)) (fun b o n e => (hs.2 b n).trans e) (Nat.le_refl _)
    have m := e1.mono fun b hb => let ⟨⟨o, p⟩, _⟩ := hp b hb; p.fz
    refine ⟨u, rfl, L2.go_of eo co dd (by decide) (hq g _ u r1 e1 (Rep.mono m ru) ⟨ti', f, l.mono fun o z => m.obj p o f z, RepL.mono m q⟩)⟩
  done X hX g st s Q E r t hp hq := by
    obtain ⟨ti, f, l, q⟩ := t
    subst hX
    refine wpAny_pyNext_tuple_end r.ok.hd ti (show s.heap.IsTuple p us.toArray from l.2.1) (by simp [q.length]) fun h' hx => ?_
    obtain ⟨r1, e1⟩ := sameBut_it (k := s.toks) r (hp it (by simp)) hx (Nat.le_refl _)
    exact ⟨rfl, hq _ r1 e1⟩
  self A i g s Q E t h := wpAny_pyIter_tupleiter t.1 h

def TR (it : Addr) (lo : Int) (n : Nat) : Nat → Gh → Heap → Prop := fun i g h => IsRangeIter h it (lo + (i : Nat) * 1) ((n : Int) - (i : Nat)) 1
theorem rngL_get {lo : Int} {n i : Nat} {x : AV} (h : (rngL lo n)[i]? = some x) : i < n ∧ x = .int (lo + i) := by
  unfold rngL at h
  rw [List.getElem?_map] at h
  by_cases hi : i < n
  · rw [List.getElem?_range hi] at h
    cases h
    exact ⟨hi, rfl⟩
  · rw [List.getElem?_eq_none (by simpa using hi)] at h
    cases h
theorem rngL_len (lo : Int) (n : Nat) : (rngL lo n).length = n := by simp [rngL]
theorem iter_range {lo : Int} {n : Nat} : Iter gc tg (rngL lo n) it [it] (TR it lo n) where
  obj i g h t b hb := by
    rw [List.mem_singleton.mp hb]
    exact ⟨_, t, show Value.type "range_iterator" ≠ .type "list" by decide⟩
  keep i g g' h h' t m k := k it (by simp) _ t
  item X hX i x g st s Q E hx r t hp hq := by
    subst hX
    obtain ⟨hi, rfl⟩ := rngL_get hx
    refine wpAny_pyNext_range_item t (by omega) fun h' ti' hs => ?_
    obtain ⟨r1, e1⟩ := sameBut_it (k := s.toks + 1) r (hp it (by simp)) (fun b o n e => (hs.2 b n).trans e) (Nat.le_succ _)
    have ti2 : TR it lo n (i + 1) g h' := by
      have h1 : lo + ((i + 1 : Nat) : Int) * 1 = lo + (i : Nat) * 1 + 1 := by omega
      have h2 : (n : Int) - ((i + 1 : Nat) : Int) = (n : Int) - (i : Nat) - 1 := by omega
      show IsRangeIter h' it (lo + ((i + 1 : Nat) : Int) * 1) ((n : Int) - ((i + 1 : Nat) : Int)) 1
      rw [h1, h2]; exact ti'
    refine ⟨_, rfl, L2.go_of ti' rfl rfl (by decide) (hq g _ _ r1 e1 ?_ ti2)⟩
    simp only [Rep]
    exact ⟨s.toks, by rw [Int.mul_one]⟩
  done X hX g st s Q E r t hp hq := by
    subst hX
    rw [rngL_len] at t
    refine wpAny_pyNext_range_end r.ok.hd t (by omega) fun h' hx => ?_
    obtain ⟨r1, e1⟩ := sameBut_it (k := s.toks) r (hp it (by simp)) hx (Nat.le_refl _)
    exact ⟨rfl, hq _ r1 e1⟩
  self A i g s Q E t h := wpAny_pyIter_rangeiter t h

def TS (it : Addr) (x : Tx) (t : Tok) : Nat → Gh → Heap → Prop := fun i g h => h.IsStrIter it (strIterType (tx x)) (tx x) t i
theorem strIter_cases (x : Tx) : ((tx x).cps.all (· < 128) = true ∧ strIterType (tx x) = "str_ascii_iterator") ∨ ((tx x).cps.all (· < 128) = false ∧ strIterType (tx x) = "str_iterator") := by
  unfold strIterType
  cases h : (tx x).cps.all (· < 128)
  · exact .inr ⟨rfl, by simp_all⟩
  · exact .inl ⟨rfl, by simp_all⟩
theorem iter_str {x : Tx} {t : Tok} (hx : TxOk x) : Iter gc tg (x.map fun c => .str [c]) it [it] (TS it x t) where
  obj i g h t b hb := by
    rw [List.mem_singleton.mp hb]
    obtain ⟨o, e, c, _⟩ := t
    refine ⟨o, e, ?_⟩
    rw [c]
    rcases strIter_cases x with ⟨_, z⟩ | ⟨_, z⟩ <;> rw [z] <;> decide
  keep i g g' h h' t m k := by
    obtain ⟨o, e, c, d⟩ := t
    exact ⟨o, k it (by simp) o e, c, d⟩
  item X hX i y g st s Q E hy r ti hp hq := by
    subst hX
    rw [List.getElem?_map] at hy
    obtain ⟨c, hc, rfl⟩ := Option.map_eq_some_iff.mp hy
    have hc' : (tx x).cps[i]? = some c := by simpa [tx] using hc
    have ok : TxOk [c] := ⟨by show 1 ≤ LIM; decide, fun d hd => by rw [List.mem_singleton.mp hd]; exact hx.2 _ (List.mem_of_getElem? hc)⟩
    have fin : ∀ h', h'.IsStrIter it (strIterType (tx x)) (tx x) t (i + 1) → Heap.SameBut it s.heap h' → Q (.str ⟨#[c]⟩ s.toks) { s with heap := h', toks := s.toks + 1 } := fun h' ti' hs => by
      obtain ⟨r1, e1⟩ := sameBut_it (k := s.toks) r (hp it (by simp)) (fun b o n e => (hs.2 b n).trans e) (Nat.le_refl _)
      obtain ⟨r2, f2, q2⟩ := r1.newStr ok
      exact hq _ _ _ r2 (e1.tok rfl rfl rfl rfl f2.tk (Nat.le_succ _)) q2 ti'
    rcases strIter_cases x with ⟨_, z⟩ | ⟨_, z⟩
    · unfold TS at ti
      rw [z] at ti fin
      refine wpAny_pyNext_ascii_item ti hc' fun h' ti' hs => ?_
      obtain ⟨o, eo, co, dd⟩ := id ti'
      exact ⟨_, rfl, L2.go_of eo co dd (by decide) (fin h' ti' hs)⟩
    · unfold TS at ti
      rw [z] at ti fin
      refine wpAny_pyNext_wide_item ti hc' fun h' ti' hs => ?_
      obtain ⟨o, eo, co, dd⟩ := id ti'
      exact ⟨_, rfl, L2.go_of eo co dd (by decide) (fin h' ti' hs)⟩
  done X hX g st s Q E r ti hp hq := by
    subst hX
    have hn : (tx x).cps[(x.map fun c => AV.str [c]).length]? = none := by simp [tx]
    rcases strIter_cases x with ⟨_, z⟩ | ⟨_, z⟩
    · unfold TS at ti
      rw [z] at ti
      refine wpAny_pyNext_ascii_end r.ok.hd ti hn fun h' hx => ?_
      obtain ⟨r1, e1⟩ := sameBut_it (k := s.toks) r (hp it (by simp)) hx (Nat.le_refl _)
      exact ⟨rfl, hq _ r1 e1⟩
    · unfold TS at ti
      rw [z] at ti
      refine wpAny_pyNext_wide_end r.ok.hd ti hn fun h' hx => ?_
      obtain ⟨r1, e1⟩ := sameBut_it (k := s.toks) r (hp it (by simp)) hx (Nat.le_refl _)
      exact ⟨rfl, hq _ r1 e1⟩
  self A i g s Q E ti h := by
    rcases strIter_cases x with ⟨_, z⟩ | ⟨_, z⟩
    · unfold TS at ti
      rw [z] at ti
      exact wpAny_pyIter_striter_ascii ti h
    · unfold TS at ti
      rw [z] at ti
      exact wpAny_pyIter_striter_wide ti h
end
end Q
end

section
set_option Elab.async false
set_option linter.all false
set_option maxRecDepth 100000
/-! Core15: for, while, item set. -/
namespace Q
open PySem PySem.Spec PyProof.Rows PySem.Builtin

/-- what is walked -/
structure EId (X : Fx) (C : Oracle) (i : IE) (e : Expr) (tg : Expr) : Prop where
  run : ∀ (g : Gh) (st : S) (s : Shared) (Q E : Value → Shared → Prop), SR X g st s →
    KR (evI C i st) (fun xs st' => ∀ g' s' it fp T, SR X g' st' s' → FrE X g st s g' st' s' → Iter X.gc tg xs it fp T → T 0 g' s'.heap → (∀ b ∈ fp, s.heap.get? b = none ∧ Pn X g' s' b) → Q (.ref it) s') →
    wpAny (model X.gc.P X.gc.w) X.A (eval e X.env) (fun x s1 => wpAny (model X.gc.P X.gc.w) X.A (pyIter x) Q E s1) E s

section
variable {X : Fx} {C : Oracle} {g g' : Gh} {st st' : S} {s s' : Shared} {u w : Value} {E : Value → Shared → Prop}
variable {a b d : IE} {ea eb ed : Expr} {pos : Pos} {tg : Expr}
/-- the IR of a plain thing that is walked -/
def plainIt : IE → Bool
  | .rng1 _ => false
  | .rng2 _ _ => false
  | .enum _ => false
  | .zip _ _ => false
  | .zipi _ _ _ _ => false
  | _ => true
theorem evI_plain {i : IE} (h : plainIt i = true) (st : S) : evI C i st = (ev C i st).bind fun x s => (ofO (itemsOf x.1) s).bind fun xs s => .ok xs (s.esc x.2) := by
  cases i <;> first | (rw [evI] <;> (intros; first | rfl | contradiction)) | (cases h; done)
theorem foldedOk {e : Expr} (h : ∀ a b c, e ≠ .Set a b c) (env : Env) (x : Value) : foldedSetIterable e env x = pure x := by
  cases e <;> first | rfl | exact absurd rfl (h _ _ _)
/-- a new iterator's object -/
theorem SR.newIt {o : Obj} {k : Nat} (r : SR X g st s) (hc : o.cls ≠ .type "list") (ho : o.isFreed = false) (hk : s.toks ≤ k) :
    SR X g st { s with heap := s.heap.push o, toks := k } ∧ FrE X g st s g st { s with heap := s.heap.push o, toks := k } ∧ s.heap.get? s.heap.objs.size = none ∧ Pn X g { s with heap := s.heap.push o, toks := k } s.heap.objs.size := by
  obtain ⟨f1, f2, f3⟩ := r.fresh
  obtain ⟨r1, e1⟩ := r.ext (k := k) (h' := s.heap.push o) (fun b o e => Heap.get?_push_of_some _ e) hk
  exact ⟨r1, e1, f3, ⟨o, Heap.get?_push_size _ ho, NLst.of hc, f1, f2, fun z => some_ne (z ▸ r.locIn) f3, fun x c e z => some_ne (z ▸ r.cellIn e) f3, fun z => some_ne (r.frIn z) f3⟩, r.h0none f3⟩
theorem ei_plain (ha : ESd X C a ea) (hp : plainIt a = true) : EId X C a ea tg := ⟨fun g st s Q E r h => by
  rw [evI_plain hp] at h; simp only [KR_bind] at h
  refine ha.run g st s _ _ r (h.mono fun x st1 h g1 s1 u r1 f1 t1 => ?_)
  obtain ⟨xs, e, h⟩ := KR_ofO h
  obtain ⟨g2, r2, f2, q2, m2⟩ := esc f1 r1 t1
  obtain ⟨v, md⟩ := x
  cases v with
  | lst ys =>
    cases e
    simp only [Rep] at q2
    obtain ⟨p, us, rfl, hf, l, q⟩ := q2
    refine wpAny_pyIter_list (isList_of l) ?_
    obtain ⟨r3, f3, hn, pn⟩ := r2.newIt (o := { cls := .type "list_iterator", data := .fields #[.ref p, .int 0 0] }) (k := s1.toks) (by show Value.type _ ≠ .type "list"; decide) rfl (Nat.le_refl _)
    have m3 := f3.mono r2
    exact h g2 _ _ [s1.heap.objs.size] (TL _ p us _ X.gc) r3 (f2.trans f3) iter_list ⟨⟨_, Heap.get?_push_size _ rfl, rfl, rfl⟩, hf, l.mono fun o z => m3.obj p o hf z, RepL.mono m3 q⟩
      fun b hb => by rw [List.mem_singleton.mp hb]; exact ⟨f2.kp.none hn, pn⟩
  | tup ys =>
    cases e
    simp only [Rep] at q2
    obtain ⟨p, us, rfl, hf, l, q⟩ := q2
    refine wpAny_pyIter_tuple (show s1.heap.IsTuple p us.toArray from l.2.1) ?_
    obtain ⟨r3, f3, hn, pn⟩ := r2.newIt (o := { cls := .type "tuple_iterator", data := .fields #[.ref p, .int 0 0] }) (k := s1.toks) (by show Value.type _ ≠ .type "list"; decide) rfl (Nat.le_refl _)
    have m3 := f3.mono r2
    exact h g2 _ _ [s1.heap.objs.size] (TT _ p us _ X.gc) r3 (f2.trans f3) iter_tuple ⟨⟨_, Heap.get?_push_size _ rfl, rfl, rfl⟩, hf, l.mono fun o z => m3.obj p o hf z, RepL.mono m3 q⟩
      fun b hb => by rw [List.mem_singleton.mp hb]; exact ⟨f2.kp.none hn, pn⟩
  | str x =>
    cases e
    simp only [Rep] at q2
    obtain ⟨t, rfl, _, ok⟩ := q2
    refine wpAny_pyIter_strU ?_
    obtain ⟨r3, f3, hn, pn⟩ := r2.newIt (o := { cls := .type (strIterType (tx x)), data := .fields #[.str (tx x) t, .int 0 0] }) (k := s1.toks) (by
      show Value.type (strIterType (tx x)) ≠ .type "list"
      rcases strIter_cases x with ⟨_, z⟩ | ⟨_, z⟩ <;> rw [z] <;> decide) rfl (Nat.le_refl _)
    exact h g2 _ _ [s1.heap.objs.size] (TS _ x t) r3 (f2.trans f3) (iter_str ok) ⟨_, Heap.get?_push_size _ rfl, rfl, rfl⟩
      fun b hb => by rw [List.mem_singleton.mp hb]; exact ⟨f2.kp.none hn, pn⟩
  | _ => cases e⟩
theorem range_it {lo hi : Int} {t v k : Tok} {tk : Nat} {Q : Value → Shared → Prop} (r : SR X g st s) (hk : s.toks ≤ tk) (h1 : -(2 ^ 62) ≤ lo) (h2 : lo < 2 ^ 62) (h3 : -(2 ^ 62) ≤ hi) (h4 : hi < 2 ^ 62)
    (h : ∀ g' s' it fp T, SR X g' st s' → FrE X g st s g' st s' → Iter X.gc tg (rngL lo (hi - lo).toNat) it fp T → T 0 g' s'.heap → (∀ b ∈ fp, s.heap.get? b = none ∧ Pn X g' s' b) → Q (.ref it) s') :
    wpAny (model X.gc.P X.gc.w) X.A (pyIter (.ref s.heap.objs.size)) Q E { s with heap := s.heap.push { cls := .type "range", data := .fields #[.int lo t, .int hi v, .int 1 k] }, toks := tk } := by
  refine wpAny_pyIter_range (IsRange.new ..) (small_one h1 h2 h3 h4) ?_
  obtain ⟨r1, f1, hn1, pn1⟩ := r.newIt (o := { cls := .type "range", data := .fields #[.int lo t, .int hi v, .int 1 k] }) (k := tk) (by show Value.type "range" ≠ _; decide) rfl hk
  obtain ⟨r2, f2, hn2, pn2⟩ := r1.newIt (o := { cls := .type "range_iterator", data := .fields #[rawInt lo, rawInt (Builtin.Range.rangeSize lo hi 1), rawInt 1] }) (k := tk) (by show Value.type "range_iterator" ≠ _; decide) rfl (Nat.le_refl _)
  refine h g _ _ [(s.heap.push { cls := .type "range", data := .fields #[.int lo t, .int hi v, .int 1 k] }).objs.size] (TR _ lo (hi - lo).toNat) r2 (f1.trans f2) iter_range ?_ fun b hb => by rw [List.mem_singleton.mp hb]; exact ⟨f1.kp.none hn2, pn2⟩
  have e1 : lo + ((0 : Nat) : Int) * 1 = lo := by simp
  have e2 : (((hi - lo).toNat : Nat) : Int) - ((0 : Nat) : Int) = Builtin.Range.rangeSize lo hi 1 := by rw [rangeSize_one]; split <;> omega
  show IsRangeIter _ _ (lo + ((0 : Nat) : Int) * 1) ((((hi - lo).toNat : Nat) : Int) - ((0 : Nat) : Int)) 1
  rw [e1, e2]
  exact Heap.get?_push_size _ rfl
theorem ei_rng1 {p : Pos} (hg : Gl X "range") (hm : X.gc.mg "range" = none) (ha : ESd X C a ea) (hs : noStar ea = true) : EId X C (.rng1 a) (.Call (.Name "range" p) [ea] [] pos) tg := ⟨fun g st s Q E r h => by
  rw [evI] at h; simp only [KR_bind] at h
  refine wpAny_Call_Name_kw (ld_blt r hg hm boot_range ?_ (by decide) (by decide))
  refine PyProof.Rows.callWith_type1 ?_ (star_cons hs) rfl
  rw [star_cons hs]
  refine Calls.spliced_cons (ha.run g st s _ _ r (h.mono fun x st1 h g1 s1 u r1 f1 t1 => Calls.spliced_nil ?_))
  have l := t1.look r1
  obtain ⟨v, md⟩ := x
  cases v with
  | int j =>
    simp only [RepB, Rep] at l
    obtain ⟨t, rfl⟩ := l
    dsimp only at h
    split at h
    · rename_i hj
      refine call_range_1 (range_it (tg := tg) r1 (by omega) (by omega) (by omega) hj.1 hj.2 fun g2 s2 it fp T r2 f2 i t0 hb => ?_)
      rw [Int.sub_zero] at i
      exact h g2 s2 it fp T r2 (f1.trans f2) i t0 fun b hb' => ⟨f1.kp.none (hb b hb').1, (hb b hb').2⟩
    · exact h.elim
  | _ => exact h.elim⟩
theorem ei_rng2 {p : Pos} (hg : Gl X "range") (hm : X.gc.mg "range" = none) (ha : ESd X C a ea) (hb : ESd X C b eb) (hs : noStar ea = true) (hs2 : noStar eb = true) : EId X C (.rng2 a b) (.Call (.Name "range" p) [ea, eb] [] pos) tg := ⟨fun g st s Q E r h => by
  rw [evI] at h; simp only [KR_bind] at h
  refine wpAny_Call_Name_kw (ld_blt r hg hm boot_range ?_ (by decide) (by decide))
  refine PyProof.Rows.callWith_type1 ?_ (star_cons hs) (by rw [star_cons hs2]; rfl)
  rw [star_cons hs, star_cons hs2]
  refine Calls.spliced_cons (ha.run g st s _ _ r (h.mono fun x st1 h g1 s1 u r1 f1 t1 => ?_))
  refine Calls.spliced_cons (hb.run g1 st1 s1 _ _ r1 (h.mono fun y st2 h g2 s2 w r2 f2 t2 => Calls.spliced_nil ?_))
  have l1 := (t1.look r1).keep r1 f2
  have l2 := t2.look r2
  obtain ⟨v1, md1⟩ := x
  obtain ⟨v2, md2⟩ := y
  cases v1 with
  | int i =>
    cases v2 with
    | int j =>
      simp only [RepB, Rep] at l1 l2
      obtain ⟨t, rfl⟩ := l1
      obtain ⟨t', rfl⟩ := l2
      dsimp only at h
      split at h
      · rename_i hj
        refine call_range_2 (range_it (tg := tg) r2 (by omega) hj.1 hj.2.1 hj.2.2.1 hj.2.2.2 fun g3 s3 it fp T r3 f3 i t0 hb => ?_)
        exact h g3 s3 it fp T r3 ((f1.trans f2).trans f3) i t0 fun b hb' => ⟨f1.kp.none (f2.kp.none (hb b hb').1), (hb b hb').2⟩
      · exact h.elim
    | _ => exact h.elim
  | _ => exact h.elim⟩

/-! ### for -/
def noSet : Expr → Bool
  | .Set _ _ _ => false
  | _ => true
theorem SQ.nx {Q : Flow → Shared → Prop} {g1 : Gh} {s1 : Shared} (f : StE X g s g1 s1) {a : Fl} {st2 : S} (h : SQ X g s Q a st2) : SQ X g1 s1 Q a st2 := SQ.from f h
theorem s_for {t : ITg} {body : List IS} {ss : List Stmt} (hi : EId X C a ea tg) (ht : TGd X t tg) (hb : SSd X C body ss) (hs : noSet ea = true) : S1d X C (.for_ t a body) (.For tg ea ss [] pos) := ⟨fun g st s Q E r h => by
  rw [ex] at h; simp only [KR_bind] at h
  refine wpAny_For (hi.run g st s _ _ r (h.mono fun xs st1 h g1 s1 it fp T r1 f1 I t0 hfp => ?_)) (fun x => foldedOk (by intro a b c z; rw [z] at hs; cases hs) _ _)
  have hn : ∀ b ∈ fp, s.heap.get? b = none := fun b hb => (hfp b hb).1
  refine codeAny_forLoop_any (fun n s' => ∃ i g' st', n = xs.length - i ∧ i ≤ xs.length ∧ SR X g' st' s' ∧ StE X g s g' s' ∧ T i g' s'.heap ∧ (∀ b ∈ fp, Pn X g' s' b) ∧
    KR (forI (fun x s => (ofO (asgT t x false s) s).bind fun s' _ => exs C body s') (xs.drop i) st') (SQ X g s Q)) ?_ xs.length ⟨0, g1, st1, rfl, Nat.zero_le _, r1, f1.toSt r, t0, fun b hb => (hfp b hb).2, h⟩
  rintro n s2 ⟨i, g2, st2, rfl, hi, r2, f2, t2, pn2, h2⟩
  by_cases hlt : i < xs.length
  · have hx : xs[i]? = some xs[i] := by simp [hlt]
    have hd : xs.drop i = xs[i] :: xs.drop (i + 1) := List.drop_eq_getElem_cons hlt
    rw [hd] at h2
    generalize hxi : xs[i] = x at hx h2
    rw [forI] at h2
    refine L2.thn (I.item X rfl i x g2 st2 s2 _ _ hx r2 t2 pn2 (fun g3 s3 u r3 e3 q3 t3 => ?_)) fun rr s3 hh => by
      obtain ⟨u, hr, h3⟩ := hh
      subst hr
      exact h3
    have f3 := f2.it r2 e3 pn2 hn
    have pn3 : ∀ b ∈ fp, Pn X g3 s3 b := fun b hb => (pn2 b hb).it e3 (I.obj _ _ _ t3 b hb)
    cases ea : asgT t x false st2 with
    | none =>
      rw [ea] at h2
      exact h2.elim
    | some st4 =>
      rw [ea] at h2
      refine ht.run g3 st2 s3 x u st4 _ _ r3 q3 ea fun s4 r4 f4 _ => ?_
      have pn4 : ∀ b ∈ fp, Pn X g3 s4 b := fun b hb => (pn3 b hb).toSt f4
      have t4 : T (i + 1) g3 s4.heap := I.keep _ _ _ _ _ t3 f4.mono fun b hb o e => by
        obtain ⟨⟨o', p⟩, _⟩ := pn3 b hb
        rw [p.obj] at e; cases e
        exact (f4.pin b _ p).obj
      have f34 := f3.trans f4
      have again : ∀ g5 st5 s5, SR X g5 st5 s5 → StE X g3 s4 g5 s5 → KR (forI (fun x s => (ofO (asgT t x false s) s).bind fun s' _ => exs C body s') (xs.drop (i + 1)) st5) (SQ X g s Q) →
          ∃ m, m < xs.length - i ∧ ∃ i g' st', m = xs.length - i ∧ i ≤ xs.length ∧ SR X g' st' s5 ∧ StE X g s g' s5 ∧ T i g' s5.heap ∧ (∀ b ∈ fp, Pn X g' s5 b) ∧
            KR (forI (fun x s => (ofO (asgT t x false s) s).bind fun s' _ => exs C body s') (xs.drop i) st') (SQ X g s Q) := fun g5 st5 s5 r5 f5 h5 =>
        ⟨xs.length - (i + 1), by omega, i + 1, g5, st5, rfl, hlt, r5, f34.trans f5, I.keep _ _ _ _ _ t4 f5.mono fun b hb o e => by
          obtain ⟨⟨o', p⟩, _⟩ := pn4 b hb
          rw [p.obj] at e; cases e
          exact (f5.pin b _ p).obj, fun b hb => (pn4 b hb).toSt f5, h5⟩
      dsimp only [ofO_some, Res.bind_ok] at h2
      have hbody : KR (exs C body st4) fun f st5 => match f with
          | .nx => KR (forI (fun x s => (ofO (asgT t x false s) s).bind fun s' _ => exs C body s') (xs.drop (i + 1)) st5) (SQ X g s Q)
          | .ct => KR (forI (fun x s => (ofO (asgT t x false s) s).bind fun s' _ => exs C body s') (xs.drop (i + 1)) st5) (SQ X g s Q)
          | .bk => SQ X g s Q .nx st5
          | .rt v md => SQ X g s Q (.rt v md) st5 := by
        cases ee : exs C body st4 with
        | stuck => rw [ee] at h2; exact h2.elim
        | exc x s => rw [ee] at h2; exact h2.elim
        | ok f st5 => rw [ee] at h2; cases f <;> exact h2
      refine hb.run g3 st4 s4 _ _ r4 (hbody.mono fun f st5 h5 g5 s5 r5 f5 => ?_)
      cases f with
      | nx => exact again g5 st5 s5 r5 f5 h5
      | ct => exact again g5 st5 s5 r5 f5 h5
      | bk => exact h5 g5 s5 r5 (f34.trans f5)
      | rt v md => exact fun u t => h5 g5 s5 r5 (f34.trans f5) u t
  · have hi' : i = xs.length := by omega
    subst hi'
    rw [List.drop_length, forI] at h2
    refine L2.thn (I.done X rfl g2 st2 s2 _ _ r2 t2 pn2 (fun s3 r3 e3 => ?_)) fun rr s3 hh => by
      obtain ⟨hr, h3⟩ := hh
      subst hr
      exact h3
    exact wpAny_execs_nil (h2 g2 s3 r3 (f2.it r2 e3 pn2 hn))⟩

/-! ### while -/
theorem loopN_mono {f : S → Res (Option Fl)} : ∀ {n : Nat} {st : S}, loopN f n st ≠ .stuck → ∀ {m : Nat}, n ≤ m → loopN f m st = loopN f n st
  | 0, st, h, _, _ => absurd rfl h
  | n + 1, st, h, 0, hm => absurd hm (by omega)
  | n + 1, st, h, m + 1, hm => by
    rw [loopN] at h ⊢
    rw [loopN]
    cases e : f st with
    | stuck => rfl
    | exc x s => rfl
    | ok o s =>
      rw [e] at h
      cases o with
      | none => exact loopN_mono h (by omega)
      | some fl => rfl
theorem s_whl {body : List IS} {ss : List Stmt} (ha : ETd X C a ea) (hb : SSd X C body ss) : S1d X C (.whl a body) (.While ea ss [] pos) := ⟨fun g st s Q E r h => by
  rw [ex] at h
  generalize hf : (fun s => (evT C a s).bind fun k s => if k then (exs C body s).bind fun f s => match f with
      | .nx => .ok none s
      | .ct => .ok none s
      | .bk => .ok (some .nx) s
      | .rt v md => .ok (some (.rt v md)) s
    else (.ok (some .nx) s : Res (Option Fl))) = f at h
  have hex : ∃ n, KR (loopN f n st) (SQ X g s Q) := by
    unfold whlI at h
    split at h
    · rename_i hn
      exact ⟨_, h⟩
    · exact h.elim
  obtain ⟨n0, h0⟩ := hex
  refine wpAny_While (codeAny_whileLoop (fun n s' => ∃ g' st', SR X g' st' s' ∧ StE X g s g' s' ∧ KR (loopN f n st') (SQ X g s Q)) ?_ n0 ⟨g, st, r, StE.refl, h0⟩)
  rintro n s1 ⟨g1, st1, r1, f1, h1⟩
  cases n with
  | zero => exact h1.elim
  | succ n =>
    rw [loopN] at h1
    have key : KR (f st1) fun o st2 => match o with
        | none => KR (loopN f n st2) (SQ X g s Q)
        | some fl => SQ X g s Q fl st2 := by
      cases e : f st1 with
      | stuck => rw [e] at h1; exact h1.elim
      | exc x s => rw [e] at h1; exact h1.elim
      | ok o st2 => rw [e] at h1; cases o <;> exact h1
    rw [← hf] at key
    simp only [KR_bind] at key
    rw [hf] at key
    refine ha.run g1 st1 s1 _ _ r1 (key.mono fun k st2 h2 g2 s2 r2 f2 => ?_)
    have f12 := f1.trans (f2.toSt r1)
    cases k with
    | false =>
      simp only [Bool.false_eq_true, if_false] at h2 ⊢
      exact wpAny_execs_nil (h2 g2 s2 r2 f12)
    | true =>
      simp only [if_true] at h2 ⊢
      simp only [KR_bind] at h2
      refine hb.run g2 st2 s2 _ _ r2 (h2.mono fun fl st3 h3 g3 s3 r3 f3 => ?_)
      cases fl with
      | nx => exact ⟨n, Nat.lt_succ_self _, g3, st3, r3, f12.trans f3, h3⟩
      | ct => exact ⟨n, Nat.lt_succ_self _, g3, st3, r3, f12.trans f3, h3⟩
      | bk => exact h3 g3 s3 r3 (f12.trans f3)
      | rt v md => exact fun u t => h3 g3 s3 r3 (f12.trans f3) u t⟩

/-! ### x[i] = v -/
theorem stores_sub {e o i : Expr} {p : Pos} (env : Env) : swappedStores [.Subscript o i p] e env = pure none := by
  cases e <;> rfl
theorem release_ok {i : Expr} (hs : noSlice i = true) (a b c : Value) : (match i with | .Slice _ _ none _ => [a, b, c] | _ => [b, c, a]) = [b, c, a] := by
  cases i <;> first | rfl | cases hs
theorem s_aset {j : Nat} {x : Str} {np spos : Pos} (hN : X.N[j]? = some x) (hv : L2.Vis X.env.scope x) (hd : (x == ("__debug__" : Str)) = false) (hcd : (x == ("__classdict__" : Str)) = false) (hb : ESd X C b eb) (hs : noSlice eb = true) (ha : ESd X C a ea) (hc : noComp ea = true) :
    S1d X C (.aset j b a) (.Assign [.Subscript (.Name x np) eb spos] ea pos) := ⟨fun g st s Q E r h => by
  rw [ex] at h; simp only [KR_bind] at h
  have hsw : swapsWithSole [Expr.Subscript (.Name x np) eb spos] ea pos.line X.env = pure false := swaps_of hc (some (.Subscript (.Name x np) eb spos)) pos.line X.env
  refine wpAny_Assign_stores (ha.run g st s _ _ r (h.mono fun z st1 h g1 s1 w r1 f1 t1 => ?_)) hsw (stores_sub _)
  show wpAny _ _ (assign (.Subscript (.Name x np) eb spos) X.env w) _ _ _
  rw [assign_Subscript]
  obtain ⟨g2, r2, f2, q2, m2⟩ := esc f1 r1 t1
  cases e0 : (st1.esc z.2).get j with
  | none =>
    rw [e0] at h
    exact h.elim
  | some c =>
    rw [e0] at h
    simp only [Option.isSome_some, if_true, KR_bind] at h
    obtain ⟨v, o⟩ := c
    obtain ⟨u0, a0, sv⟩ := r2.slot j v o e0 ⟨x, hN, hv⟩
    refine wpAny_bind (wpAny_holding (name_at r2 hN a0 hd hcd ?_))
    refine wpAny_bind (wpAny_holding (hb.run g2 _ s1 _ _ r2 (h.mono fun y st3 h g3 s3 iv r3 f3 t3 => ?_)))
    obtain ⟨st4, e, h⟩ := KR_ofO h
    refine wpAny_bind (wpAny_standAt (wpAny_bind (wpAny_holding ?_)))
    have a3 := a0.fr r2 f3
    have q3 := Rep.mono (f3.mono r2) q2
    have li := t3.look r3
    have fin : ∀ {s4 : Shared}, SR X g3 st4 s4 → StE X g3 s3 g3 s4 → Q .next s4 := fun {s4} r4 f4 => h g3 s4 r4 (((f2.trans f3).toSt r).trans f4)
    rw [aset1_eq] at e
    obtain ⟨y, ymd⟩ := y
    cases e3 : st3.get j with
    | none => rw [e3] at e; cases e
    | some c =>
      obtain ⟨v3, o3⟩ := c
      obtain ⟨u3, b3, sv3⟩ := r3.slot j v3 o3 e3 a3.vis
      have := b3.inj a3
      subst this
      rw [e3] at e
      cases o3 with
      | true =>
        obtain ⟨p, xs, us, e1, e2, l, qs, nf, nm, hlo⟩ := sv3
        subst e1; subst e2
        cases y with
        | int n =>
          simp only [RepB, Rep] at li
          obtain ⟨t, rfl⟩ := li
          rw [asetG_l] at e
          unfold setL at e
          obtain ⟨l2, e5, rfl⟩ := Option.map_eq_some_iff.mp e
          obtain ⟨m, e6, rfl⟩ := Option.map_eq_some_iff.mp e5
          refine set_ok l (by rw [qs.length]; exact e6) fun h' hs l' => ?_
          obtain ⟨r4, f4⟩ := r3.mutOwn (t := s3.toks) e3 b3 hs l' (qs.set m q3) (Nat.le_refl _)
          exact wpAny_release (fin r4 f4)
        | _ => cases e
      | false =>
        cases v3 with
        | ref k =>
          simp only [SlotV, Rep] at sv3
          obtain ⟨p, ep, rfl⟩ := sv3
          cases y with
          | int n =>
            simp only [RepB, Rep] at li
            obtain ⟨t, rfl⟩ := li
            rw [asetG_r] at e
            unfold asetH at e
            split at e
            · rename_i xs ex
              obtain ⟨_, us, l, qs⟩ : CellR X.gc g3 s3.heap (.lst xs) p := r3.gh.cell _ p _ ep ex
              unfold setL at e
              obtain ⟨l2, e5, rfl⟩ := Option.map_eq_some_iff.mp e
              obtain ⟨m, e6, rfl⟩ := Option.map_eq_some_iff.mp e5
              refine set_ok l (by rw [qs.length]; exact e6) fun h' hs l' => ?_
              obtain ⟨r4, f4⟩ := r3.mutRef (t := s3.toks) ep ex hs l' (qs.set m q3) (Nat.le_refl _)
              exact wpAny_release (fin r4 (f4.toSt r3))
            · cases e
          | _ => cases e
        | _ => cases e⟩
end
end Q
end

section
set_option Elab.async false
set_option linter.all false
set_option maxRecDepth 100000
/-! CoreI: instances are made. -/
namespace Q
open PySem PySem.Spec PyProof.Rows PySem.Builtin

theorem execs_app (ts : List Stmt) (env : Env) : ∀ ss : List Stmt, execs (ss ++ ts) env = (execs ss env >>= fun f => match f with | .next => execs ts env | f => pure f)
  | [] => by
    rw [List.nil_append, show execs [] env = (pure .next : Sem Flow) from by rw [execs], pure_bind]
  | s :: ss => by
    rw [List.cons_append, execs, execs_app ts env ss, execs, bind_assoc]
    congr 1
    funext f
    cases f with
    | next => rfl
    | _ => rw [pure_bind]
theorem wp_app {M : Model} {A : Around} {ss ts : List Stmt} {env : Env} {s : Shared} {Q : Flow → Shared → Prop} {E : Value → Shared → Prop}
    (h : wpAny M A (execs ss env) (fun f s' => match f with | .next => wpAny M A (execs ts env) Q E s' | f => Q f s') E s) : wpAny M A (execs (ss ++ ts) env) Q E s := by
  rw [execs_app]
  refine wpAny_bind (wpAny_mono h (fun f s' k => ?_) fun _ _ k => k)
  cases f with
  | next => exact k
  | _ => exact wpAny_pure k

/-! ### the entry -/
theorem fn_open {gc : GC} {k : Nat} {f : Addr} {name qual : Str} {params : Arguments} {body : List Stmt} {scope : Scope} {dV kV doc pm cdv ct oc : Value} {an od : Option Addr}
    {osl : Array (Option Value)} {N ps : List Str} (lk : gc.K.lookup f = some ⟨oc, od, .func (PySem.W.fnOf name qual params body scope dV kV doc pm an cdv ct), osl⟩) (hcd : PySem.W.codeIn gc.K cdv qual = true) (Sc : L2.FnScope N ps scope)
    (hb : ∀ us : List Value, us.length = ps.length → bindArgs (PySem.W.fnOf name qual params body scope dV kV doc pm an cdv ct) ⟨us, []⟩ = pure (ps.zip us))
    {A : Around} {outer : List Env} {s : Shared} {g : Gh} {hp vs : List AV} {us : List Value} {R : Result → Shared → Prop} (hr : L2.Room (k + 1) A) (e0 : CallOk gc A outer g hp s) (q : RepL gc g s.heap vs us) (hl : vs.length = ps.length)
    (h : ∀ (s1 : Shared) (E : Value → Shared → Prop), SR (fxOf gc N qual scope f cdv A outer s.heap k) g (startS N.length vs hp) s1 → StE (fxOf gc N qual scope f cdv A outer s.heap k) g s g s1 →
      wpAny (model gc.P gc.w) (fxOf gc N qual scope f cdv A outer s.heap k).A (execs body (fxOf gc N qual scope f cdv A outer s.heap k).env) (fun fl s' => R (.ok (.ret (match fl with | .ret v => v | _ => .none))) s') E s1) :
    codeAny (model gc.P gc.w) A (.call (.ref f) ⟨us, []⟩) R s := by
  have KX : gc.K.In s.heap := e0.mod.kin.keeps e0.base
  have lim : s.heap.NoLimit := e0.mod.nolimit.keeps e0.base
  have hkind : ∀ y ∈ ps.zip us, scope.names.lookup y.1 = some .local ∨ (scope.names.lookup y.1 = some .cell ∧ ((cellsFrom (s.heap.objs.size + 1) scope.names []).lookup y.1).isSome = true) := fun ⟨n, v⟩ hy => by
    rcases Sc.par n (List.of_mem_zip hy).1 with q | q
    · exact .inl q
    · exact .inr ⟨q, PySem.W.cellsFrom_some _ _ _ (.inl q)⟩
  refine codeAny_call_function hr.depth (KX _ _ lk) rfl Sc.co Sc.gen rfl (PySem.W.codeRec_of KX hcd) ?_
  rw [hb us (by rw [q.length]; exact hl)]
  refine wpAny_pure (wp_toks ?_)
  refine wpAny_newFunctionEnv_cells Sc.kind hkind fun env he s1 x ht => ?_
  subst he
  refine ⟨lim.keeps x.toInCall.keep, codeAny_func ?_⟩
  obtain ⟨r1, f1⟩ := start_sr (f := f) (qual := qual) (cd := cdv) Sc hr e0 hl q ht x
  exact h s1 _ r1 f1

/-! ### an object that the state relation says nothing of is changed -/
section
variable {X : Fx} {C : Oracle} {g g' g'' : Gh} {st st' : S} {s s' s'' : Shared} {u w : Value} {E : Value → Shared → Prop} {a dx : Addr}
/-- a statement's work, the pinned objects aside -/
structure StN (X : Fx) (g : Gh) (s : Shared) (g' : Gh) (s' : Shared) : Prop where
  os : s'.os = s.os
  mono : GMono g g' s.heap s'.heap
  keep : ∀ a o, (∃ o0, X.h0.get? a = some o0) → s.heap.get? a = some o → ¬ g.mu a → a ∉ L2.frs X.stack → s'.heap.get? a = some o
  slot : ∀ a o, (∃ o0, X.h0.get? a = some o0) → s.heap.get? a = some o → ¬ g.mu a → ∃ sl, s'.heap.get? a = some { o with slots := sl }
  there : ∀ a o, s.heap.get? a = some o → ∃ o', s'.heap.get? a = some o'
  fzNew : ∀ a, g'.fz a → g.fz a ∨ X.h0.get? a = none
  th : ∃ more, g'.th = g.th ++ more ∧ ∀ p ∈ more, Nw X.h0 p
  toks : s.toks ≤ s'.toks
theorem StE.toN (f : StE X g s g' s') : StN X g s g' s' := ⟨f.os, f.mono, f.keep, f.slot, f.there, f.fzNew, f.th, f.toks⟩
theorem StN.trans (f : StN X g s g' s') (k : StN X g' s' g'' s'') : StN X g s g'' s'' where
  os := k.os.trans f.os
  mono := f.mono.trans k.mono
  keep a o h e n nf := k.keep a o h (f.keep a o h e n nf) (fun z => let ⟨m, e, hm⟩ := f.th; let ⟨_, h⟩ := h; n (mut_of e hm h z)) nf
  slot a o h e n := by
    obtain ⟨sl, e1⟩ := f.slot a o h e n
    obtain ⟨sl2, e2⟩ := k.slot a _ h e1 fun z => let ⟨m, e, hm⟩ := f.th; let ⟨_, h⟩ := h; n (mut_of e hm h z)
    exact ⟨sl2, e2⟩
  there a o e := let ⟨o1, e1⟩ := f.there a o e; k.there a o1 e1
  fzNew a e := by
    rcases k.fzNew a e with h | h
    · exact f.fzNew a h
    · exact .inr h
  th := by
    obtain ⟨m, e, hm⟩ := f.th
    obtain ⟨n, e2, hn⟩ := k.th
    exact ⟨m ++ n, by rw [e2, e, List.append_assoc], fun p hp => (List.mem_append.mp hp).elim (hm p) (hn p)⟩
  toks := Nat.le_trans f.toks k.toks
theorem SR.other {od od' : Obj} {h' : Heap} {t : Nat} (r : SR X g st s) (p : Pin X g s dx od) (hs : Heap.SameBut dx s.heap h') (e' : h'.get? dx = some od') (hlo : X.h0.get? dx = none) (ht : s.toks ≤ t) :
    SR X g st { s with heap := h', toks := t } ∧ StN X g s g { s with heap := h', toks := t } ∧ ∀ b o, b ≠ dx → Pin X g s b o → Pin X g { s with heap := h', toks := t } b o := by
  have keep : ∀ b o, b ≠ dx → s.heap.get? b = some o → h'.get? b = some o := fun b o n e => (hs.2 b n).trans e
  have mono : GMono g g s.heap h' := ⟨fun b o f e => keep b o (fun z => p.fz (z ▸ f)) e, fun _ e => e, ⟨[], by simp⟩, fun _ _ e => e⟩
  have there : ∀ b o, s.heap.get? b = some o → ∃ o', h'.get? b = some o' := fun b o e => by
    by_cases hb : b = dx
    · exact ⟨od', by rw [hb]; exact e'⟩
    · exact ⟨o, keep b o hb e⟩
  have h0ne : ∀ b, (∃ o, X.h0.get? b = some o) → b ≠ dx := fun b h z => some_ne h (z ▸ hlo)
  have nl : X.env.locals ≠ dx := fun z => p.loc z.symm
  have kl : ∀ o, s.heap.get? X.env.locals = some o → ∃ sl, ({ s with heap := h', toks := t } : Shared).heap.get? X.env.locals = some { o with slots := sl } := fun o e => ⟨o.slots, keep _ o nl e⟩
  have kc : ∀ x c, X.env.cells.lookup x = some c → ∀ o, s.heap.get? c = some o → ∃ sl, ({ s with heap := h', toks := t } : Shared).heap.get? c = some { o with slots := sl } := fun x c e o q => ⟨o.slots, keep c o (p.cell x c e) q⟩
  have nfr : ∀ L ∈ L2.frs X.stack, L ≠ dx := fun L hL z => p.fr (z ▸ hL)
  have backA : ∀ j v o w, st.get j = some (v, o) → At X { s with heap := h', toks := t } j w → At X s j w := fun j v o w e q => by
    obtain ⟨u0, a0, _⟩ := r.slot j v o e q.vis
    exact ((a0.keep kl kc).inj q) ▸ a0
  have nls : ∀ {b us}, LstAt s.heap b us → b ≠ dx := fun {b us} l z => p.cls (lst_cls (z ▸ l) p.obj)
  refine ⟨⟨r.ok, r.bare, fun b o e => keep b o (h0ne b (r.ok.loB b o e)) (r.base b o e), fun b o e => let ⟨o1, e1⟩ := r.ent b o e; there b o1 e1, funs_slots r.funs fun L hL o e => ⟨o.slots, keep L o (nfr L hL) e⟩, let ⟨m, n⟩ := r.ns; ⟨m, Ns.slots n kl⟩, fun x c e => let ⟨v, z⟩ := r.cell x c e; ⟨v, Cell.slots z (kc x c e)⟩, ?_, r.fzL, r.fzC, r.fzF, r.muL, r.muC, r.muF,
    fun i v o e hv => ?_, fun i j v w u e1 e2 a1 a2 => r.dist i j v w u e1 e2 (backA _ _ _ _ e1 a1) (backA _ _ _ _ e2 a2), r.len, fun L hL => let ⟨m, n⟩ := r.frD L hL; ⟨m, Ns.slots n fun o e => ⟨o.slots, keep L o (nfr L hL) e⟩⟩⟩,
    ⟨rfl, mono, fun b o h e _ _ => keep b o (h0ne b h) e, fun b o h e _ => ⟨o.slots, keep b o (h0ne b h) e⟩, there, fun _ e => .inl e, ⟨[], by simp, fun _ h => nomatch h⟩, ht⟩, fun b o n q => ⟨keep b o n q.obj, q.cls, q.fz, q.mu, q.loc, q.cell, q.fr⟩⟩
  · refine ⟨fun b f => let ⟨o, e⟩ := r.gh.fzIn b f; there b o e, r.gh.thNd, r.gh.thFz, fun b f => let ⟨o, e⟩ := r.gh.thIn b f; there b o e, r.gh.thB, r.gh.len, fun i q v e1 e2 => ?_, r.gh.tk0, fun t' x e => Nat.lt_of_lt_of_le (r.gh.tkLt t' x e) ht, Nat.lt_of_lt_of_le r.gh.tkPos ht⟩
    have c := r.gh.cell i q v e1 e2
    cases v with
    | lst xs =>
      obtain ⟨e, us, l, rr⟩ := c
      exact ⟨e, us, l.mono fun o z => keep _ o (nls l) z, RepL.mono mono rr⟩
    | non => trivial
    | _ => exact c
  · obtain ⟨u0, a0, sv⟩ := r.slot i v o e hv
    refine ⟨u0, a0.keep kl kc, ?_⟩
    cases o with
    | false => exact Rep.mono mono sv
    | true =>
      obtain ⟨b, xs, us, e1, e2, l, q, nf, nm, hl⟩ := sv
      exact ⟨b, xs, us, e1, e2, l.mono fun o z => keep _ o (nls l) z, RepL.mono mono q, nf, nm, hl⟩
end
end Q
end

section
set_option Elab.async false
set_option linter.all false
set_option maxRecDepth 100000
/-! CoreI2: the fields are set; the maker. -/
namespace Q
open PySem PySem.Spec PyProof.Rows PySem.Builtin
/-- a class whose instances are made by its own __init__ f, fields ns -/
structure MkC (gc : GC) (c : String) (C f : Addr) (ns : List String) : Prop where
  cls : gc.cls c = some C
  made : L2.Mk gc.K C f
  cf : ClsF gc.K C ns
  set : PySem.W.findIn gc.K (.ref C) "__setattr__" = some (some (.builtin "object.__setattr__"))
  over : PySem.W.plainOver gc.K C = true
  tk : ∀ n ∈ ns, PySem.W.takerIn gc.K C (Str.ofString n) = some none
  few : ns.length < 1000
  nd : (ns.map Str.ofString).Nodup
inductive SetsOk (X : Fx) (C : Oracle) (self : Str) : List (String × IE) → List Stmt → Prop where
  | nil : SetsOk X C self [] []
  | cons {f : String} {ie : IE} {fs : List (String × IE)} {e : Expr} {ts : List Stmt} {p1 p2 p3 : Pos} : ESd X C ie e → (∀ t l, swapsWith e t l X.env = pure false) → SetsOk X C self fs ts →
      SetsOk X C self ((f, ie) :: fs) (.Assign [.Attribute (.Name self p1) (Str.ofString f) p2] e p3 :: ts)
def fldM (ns : List String) (us : List Value) : Str → Option Value := fun x => ((ns.map Str.ofString).zip us).lookup x
theorem lookup_app {α β : Type} [BEq α] (x : α) : ∀ (l m : List (α × β)), (l ++ m).lookup x = (l.lookup x).or (m.lookup x)
  | [], m => by simp
  | (k, v) :: l, m => by
    rw [List.cons_append, List.lookup_cons, List.lookup_cons, lookup_app x l m]
    cases x == k <;> simp
theorem lookup_zip_none {β : Type} (x : Str) : ∀ (ks : List Str) (vs : List β), x ∉ ks → (ks.zip vs).lookup x = none
  | [], vs, _ => by simp
  | k :: ks, [], _ => by simp
  | k :: ks, v :: vs, h => by
    rw [List.zip_cons_cons, List.lookup_cons]
    have : (x == k) = false := by simpa using fun e => h (by rw [e]; simp)
    rw [this]
    exact lookup_zip_none x ks vs fun z => h (List.mem_cons_of_mem _ z)
theorem fldM_snoc {ns : List String} {us : List Value} {n : String} {v : Value} (hl : us.length = ns.length) (hn : Str.ofString n ∉ ns.map Str.ofString) :
    (fun y => if y = Str.ofString n then some v else fldM ns us y) = fldM (ns ++ [n]) (us ++ [v]) := by
  funext y
  unfold fldM
  rw [List.map_append, List.map_cons, List.map_nil, List.zip_append (by rw [List.length_map]; exact hl.symm), lookup_app]
  by_cases h : y = Str.ofString n
  · rw [if_pos h, h, lookup_zip_none _ _ _ hn]
    simp
  · rw [if_neg h]
    have : (y == Str.ofString n) = false := by simpa using h
    have z : ([(Str.ofString n, v)] : List (Str × Value)).lookup y = none := by rw [List.lookup_cons, this]; rfl
    rw [show [Str.ofString n].zip [v] = [(Str.ofString n, v)] from rfl, z, Option.or_none]
theorem fldM_within (ns : List String) (us : List Value) : PySem.Within (fldM ns us) (ns.map Str.ofString) := fun y hy => by
  by_cases h : y ∈ ns.map Str.ofString
  · exact h
  · exact absurd (lookup_zip_none y _ us h) hy
section
variable {X : Fx} {C : Oracle} {self : Str} {c : String} {Ca f a dx : Addr} {all : List String} {n : Nat}
theorem sets_run (M : MkC X.gc c Ca f all) (hN : X.N[0]? = some self) (hv : L2.Vis X.env.scope self) (hd : (self == ("__debug__" : Str)) = false) (hcd : (self == ("__classdict__" : Str)) = false) (hne : dx ≠ a) (hb : X.h0.get? dx = none) :
    ∀ (fs : List (String × IE)) (ts : List Stmt), SetsOk X C self fs ts → ∀ (done : List String) (g : Gh) (st : S) (s : Shared) (od : Obj) (vs : List AV) (us : List Value) (Q : Flow → Shared → Prop) (E : Value → Shared → Prop),
      done ++ fs.map (·.1) = all → SR X g st s → g.th[n]? = some (a, none) → Pin X g s a (PySem.W.instObj Ca dx) → Pin X g s dx od → s.heap.Ns1 dx (fldM done us) → RepL X.gc g s.heap vs us → vs.length = done.length →
      KR (evF C n fs st) (fun ws st' => ∀ g' s' us' od', SR X g' st' s' → StN X g s g' s' → Pin X g' s' a (PySem.W.instObj Ca dx) → Pin X g' s' dx od' → s'.heap.Ns1 dx (fldM all us') → RepL X.gc g' s'.heap (vs ++ ws) us' → (vs ++ ws).length = all.length → Q .next s') →
      wpAny (model X.gc.P X.gc.w) X.A (execs ts X.env) Q E s := by
  intro fs ts ok
  induction ok with
  | nil =>
    intro done g st s od vs us Q E he r ht pa pd nd q hl h
    rw [evF] at h
    rw [List.map_nil, List.append_nil] at he
    subst he
    refine wpAny_execs_nil (h g s us od r StE.refl.toN pa pd nd ?_ ?_)
    · rw [List.append_nil]; exact q
    · rw [List.append_nil]; exact hl
  | @cons fn ie fs e ts p1 p2 p3 ha hs ok ih =>
    intro done g st s od vs us Q E he r ht pa pd nd q hl h
    rw [evF] at h; simp only [KR_bind] at h
    have hmem : fn ∈ all := by rw [← he]; simp
    have hnd : Str.ofString fn ∉ done.map Str.ofString := fun z => by
      have k := M.nd
      rw [← he, List.map_append, List.nodup_append] at k
      exact k.2.2 _ z _ (by simp) rfl
    refine wpAny_execs_cons (plainObj_wpAny_Assign_Attribute (ha.run g st s _ _ r (h.mono fun x st1 h g1 s1 u r1 f1 t1 => ?_)) (hs _ _))
    obtain ⟨g2, r2, f2, q2, m2⟩ := esc f1 r1 t1
    split at h
    case isFalse => exact h.elim
    rename_i hme
    simp only [KR_bind] at h
    have hg0 : (st1.esc x.2).get 0 = some (.ref n, false) := by
      unfold isMe at hme
      split at hme
      · rename_i m e
        rw [e, beq_iff_eq.mp hme]
      · cases hme
    refine (es_var (C := C) (pos := p1) hN hv hd hcd).run g2 _ s1 _ _ r2 ?_
    rw [ev, hg0]
    intro g3 s3 u3 r3 f3 t3
    have f23 := f2.trans f3
    have e3 : u3 = .ref a := by
      have t3 : Rep X.gc g3 s3.heap (.ref n) u3 := t3
      simp only [Rep] at t3
      obtain ⟨p, ep, rfl⟩ := t3
      have := (f23.mono r).thAt ht
      rw [ep] at this
      cases this; rfl
    subst e3
    have n23 := (f23.toSt r).toN
    have pa3 := f23.pin r pa
    have pd3 := f23.pin r pd
    have nd3 : s3.heap.Ns1 dx (fldM done us) := nd.at fun o z => by
      rw [pd.obj] at z; cases z
      exact pd3.obj
    have hul : us.length = done.length := by rw [q.length]; exact hl
    refine L2.set_map (kIn r3) ⟨pa3.obj, nd3, hne⟩ M.set M.over (M.tk fn hmem) M.cf.dict (fldM_within done us) ?_ fun h' I' sb => ?_
    · rw [List.length_map, LIM_eq]
      have := M.few
      rw [← he, List.length_append] at this
      have : (1000 : Nat) ≤ LIM := by decide
      omega
    · have hex : ∃ od', h'.get? dx = some od' := by
        obtain ⟨o, es, ep, e, _⟩ := I'.ns
        exact ⟨o, e⟩
      obtain ⟨od', eod⟩ := hex
      obtain ⟨r4, n4, p4⟩ := r3.other (t := s3.toks + 2) pd3 sb eod hb (by omega)
      have pa4 := p4 a _ (Ne.symm hne) pa3
      have hcls : NLst od' := by
        obtain ⟨o, es, ep, e, dd, _⟩ := I'.ns
        rw [eod] at e
        cases e
        exact NLst.dict dd
      have pd4 : Pin X g3 { s3 with heap := h', toks := s3.toks + 2 } dx od' := ⟨eod, hcls, pd3.fz, pd3.mu, pd3.loc, pd3.cell, pd3.fr⟩
      have nd4 : h'.Ns1 dx (fldM (done ++ [fn]) (us ++ [u])) := by rw [← fldM_snoc hul hnd]; exact I'.ns
      have q4 : RepL X.gc g3 h' (vs ++ [x.1]) (us ++ [u]) := RepL.app (RepL.mono ((f23.mono r).trans n4.mono) q) (RepL.one (Rep.mono ((f3.mono r2).trans n4.mono) q2))
      refine ih (done ++ [fn]) g3 _ { s3 with heap := h', toks := s3.toks + 2 } od' (vs ++ [x.1]) (us ++ [u]) Q E (by rw [← he]; simp) r4 ((f23.mono r).thAt ht) pa4 pd4 nd4 q4 (by simp [hl]) (h.mono fun ws st5 h g5 s5 us5 od5 r5 n5 a5 d5 m5 q5 l5 => ?_)
      rw [List.append_assoc] at q5 l5
      exact h g5 s5 us5 od5 r5 ((n23.trans n4).trans n5) a5 d5 m5 q5 l5
end
end Q
end

section
set_option Elab.async false
set_option linter.all false
set_option maxRecDepth 100000
/-! CoreI3: C(..) of an own class with frozen instances. -/
namespace Q
open PySem PySem.Spec PyProof.Rows PySem.Builtin
/-- the same state, less known to be there before -/
theorem SR.h0 {X : Fx} {g : Gh} {st : S} {s : Shared} (r : SR X g st s) (h : Heap) (hb : ∀ a o, X.gc.base.get? a = some o → ∃ o', h.get? a = some o') (hs : ∀ a o, h.get? a = some o → ∃ o', X.h0.get? a = some o') : SR { X with h0 := h } g st s := by
  have no : ∀ a, X.h0.get? a = none → h.get? a = none := fun a e => by
    cases q : h.get? a with
    | none => rfl
    | some o => exact (some_ne (hs a o q) e).elim
  refine ⟨⟨r.ok.mod, r.ok.kind, r.ok.glob, r.ok.blt, r.ok.nd, r.ok.inj, r.ok.has, r.ok.cne, r.ok.room, r.ok.frames, hb, no _ r.ok.loL, r.ok.bk, fun x c h1 h2 h3 => no _ (r.ok.loC x c h1 h2 h3)⟩, r.bare, r.base, fun a o e => let ⟨o1, e1⟩ := hs a o e; r.ent a o1 e1, r.funs, r.ns, r.cell, r.gh, r.fzL, r.fzC, r.fzF, r.muL, r.muC, r.muF, fun i v o e hv => ?_, r.dist, r.len, r.frD⟩
  obtain ⟨u, a0, sv⟩ := r.slot i v o e hv
  refine ⟨u, a0, ?_⟩
  cases o with
  | false => exact sv
  | true =>
    obtain ⟨b, xs, us, e1, e2, l, q, nf, nm, hl⟩ := sv
    exact ⟨b, xs, us, e1, e2, l, q, nf, nm, no _ hl⟩
theorem StN.h0 {X : Fx} {g g' : Gh} {s s' : Shared} (f : StN X g s g' s') (h : Heap) (hs : ∀ a o, h.get? a = some o → ∃ o', X.h0.get? a = some o') : StN { X with h0 := h } g s g' s' := by
  have no : ∀ a, X.h0.get? a = none → h.get? a = none := fun a e => by
    cases q : h.get? a with
    | none => rfl
    | some o => exact (some_ne (hs a o q) e).elim
  exact ⟨f.os, f.mono, fun a o ⟨o0, e0⟩ => f.keep a o (hs a o0 e0), fun a o ⟨o0, e0⟩ => f.slot a o (hs a o0 e0), f.there, fun a e => (f.fzNew a e).imp id (no a), let ⟨m, e, hm⟩ := f.th; ⟨m, e, fun p hp b q => no _ (hm p hp b q)⟩, f.toks⟩

theorem FRok_runI {c : String} {C : Oracle} {f : IIni} {vs hp : List AV} {ok : AV → Bool → List AV → Prop} (h : FRok (runI c C f vs hp) ok) : vs.length + 1 = f.np ∧
    KR (exs C f.pre (startS f.nn (.ref hp.length :: vs) (hp ++ [.non]))) fun fl st => match fl with
      | .nx => KR (evF C hp.length f.fs st) fun ws st' => ok (.ins c (f.fs.map (·.1)) ws) false st'.hp
      | _ => False := by
  unfold runI at h
  split at h
  · rename_i hl
    refine ⟨hl, ?_⟩
    cases e : exs C f.pre (startS f.nn (.ref hp.length :: vs) (hp ++ [.non])) with
    | stuck => rw [e] at h; exact h.elim
    | exc x s => rw [e] at h; exact h.elim
    | ok fl st =>
      rw [e] at h
      cases fl with
      | nx =>
        dsimp only at h
        show KR (evF C hp.length f.fs st) _
        cases e2 : evF C hp.length f.fs st with
        | stuck => rw [e2] at h; exact h.elim
        | exc x s => rw [e2] at h; exact h.elim
        | ok ws st' => rw [e2] at h; exact h
      | _ => exact h.elim
  · exact h.elim

set_option maxHeartbeats 1000000 in
theorem make_q {gc : GC} {C : Oracle} {k : Nat} {c : String} {Ca f : Addr} {name qual self : Str} {params : Arguments} {body preS setS : List Stmt} {scope : Scope} {dV kV doc pm cdv ct oc : Value} {an od : Option Addr}
    {osl : Array (Option Value)} {N ps : List Str} {ini : IIni} (M : MkC gc c Ca f (ini.fs.map (·.1))) (lk : gc.K.lookup f = some ⟨oc, od, .func (PySem.W.fnOf name qual params body scope dV kV doc pm an cdv ct), osl⟩) (hcd : PySem.W.codeIn gc.K cdv qual = true)
    (Sc : L2.FnScope N (self :: ps) scope) (hb : ∀ us : List Value, us.length = (self :: ps).length → bindArgs (PySem.W.fnOf name qual params body scope dV kV doc pm an cdv ct) ⟨us, []⟩ = pure ((self :: ps).zip us)) (hnp : ini.np = (self :: ps).length) (hnn : ini.nn = N.length)
    (hbd : body = preS ++ setS) (hd : (self == ("__debug__" : Str)) = false) (hcl : (self == ("__classdict__" : Str)) = false)
    (hbody : ∀ X : Fx, X.gc = gc → X.N = N → X.env.scope = scope → X.k = k → (∀ x, X.fn x = true) → SSd X C ini.pre preS ∧ SetsOk X C self ini.fs setS) : FnQ gc (k + 2) Ca (runI c C ini) := by
  intro A outer s g hp vs us R hr e0 q hR
  obtain ⟨hl, hR⟩ := FRok_runI hR
  have KX : gc.K.In s.heap := e0.mod.kin.keeps e0.base
  refine L2.make_map (f := f) KX M.made.makes M.made.init (beq_iff_eq.mp M.made.fn) ?_
  have up : ∀ b o, s.heap.get? b = some o → ((s.heap.push PySem.W.emptyDict).push (PySem.W.instObj Ca s.heap.objs.size)).get? b = some o := fun b o e => Heap.get?_push_of_some _ (Heap.get?_push_of_some _ e)
  have edx : ((s.heap.push PySem.W.emptyDict).push (PySem.W.instObj Ca s.heap.objs.size)).get? s.heap.objs.size = some PySem.W.emptyDict := Heap.get?_push_of_some _ (Heap.get?_push_size _ rfl)
  have ea : ((s.heap.push PySem.W.emptyDict).push (PySem.W.instObj Ca s.heap.objs.size)).get? (s.heap.objs.size + 1) = some (PySem.W.instObj Ca s.heap.objs.size) := by
    have := Heap.get?_push_size (s.heap.push PySem.W.emptyDict) (o := PySem.W.instObj Ca s.heap.objs.size) rfl
    rwa [Heap.size_push] at this
  have hsz : ((s.heap.push PySem.W.emptyDict).push (PySem.W.instObj Ca s.heap.objs.size)).objs.size = s.heap.objs.size + 2 := by rw [Heap.size_push, Heap.size_push]
  generalize hh2 : ((s.heap.push PySem.W.emptyDict).push (PySem.W.instObj Ca s.heap.objs.size)) = h2 at up edx ea hsz ⊢
  have na : s.heap.get? (s.heap.objs.size + 1) = none := Heap.get?_none_of_le (Nat.le_succ _)
  have nd : s.heap.get? s.heap.objs.size = none := Heap.get?_none_of_le (Nat.le_refl _)
  let a : Addr := s.heap.objs.size + 1
  let g1 : Gh := { g with th := g.th ++ [(a, none)] }
  have mu1 : ∀ b, g1.mu b → g.mu b := fun b ⟨p, hp, e⟩ => by
    rcases List.mem_append.mp hp with h | h
    · exact ⟨p, h, e⟩
    · rw [List.mem_singleton.mp h] at e; cases e
  have m1 : GMono g g1 s.heap h2 := ⟨fun b o _ e => up b o e, fun _ e => e, ⟨[(a, none)], rfl⟩, fun _ _ e => e⟩
  have gh1 : GhOk gc g1 (hp ++ [.non]) { s with heap := h2 } := by
    refine ⟨fun b f => let ⟨o, e⟩ := e0.gh.fzIn b f; ⟨o, up b o e⟩, ?_, fun b hb => e0.gh.thFz b (mu1 b hb), fun b hb => let ⟨o, e⟩ := e0.gh.thIn b (mu1 b hb); ⟨o, up b o e⟩, fun b hb => e0.gh.thB b (mu1 b hb), ?_, fun i p v e1 e2 => ?_, e0.gh.tk0, e0.gh.tkLt, e0.gh.tkPos⟩
    · show ((g.th ++ [((a, none) : Addr × Option Addr)]).filterMap fun p => p.2).Nodup
      rw [List.filterMap_append, show List.filterMap (fun p : Addr × Option Addr => p.2) [(a, none)] = [] from rfl, List.append_nil]
      exact e0.gh.thNd
    · show (hp ++ [AV.non]).length = (g.th ++ [(a, none)]).length
      simp [e0.gh.len]
    · have e1 : (g.th ++ [(a, none)])[i]? = some p := e1
      by_cases hi : i < g.th.length
      · rw [List.getElem?_append_left hi] at e1
        rw [List.getElem?_append_left (by rw [e0.gh.len]; exact hi)] at e2
        have c := e0.gh.cell i p v e1 e2
        cases v with
        | lst xs =>
          obtain ⟨e, us, l, rr⟩ := c
          exact ⟨e, us, l.mono fun o z => up _ o z, RepL.mono m1 rr⟩
        | non => trivial
        | _ => exact c
      · have hi2 : i = hp.length := by
          have := (List.getElem?_eq_some_iff.mp e2).1
          rw [List.length_append, List.length_singleton] at this
          have := e0.gh.len
          omega
        subst hi2
        have e2 : AV.non = v := by simpa using e2
        subst e2
        trivial
  have e1 : CallOk gc (A.under (.builtin "type.__call__" ⟨.ref Ca :: us, []⟩)) outer g1 (hp ++ [.non]) { s with heap := h2 } := by
    refine ⟨by first | exact e0.frames | (simpa [Around.under, Code.envs, Code.isFrame, pushEnvs] using e0.frames), e0.mod, e0.bk, fun b o e => up b o (e0.base b o e), e0.bare, funs_slots (h' := h2) e0.funs fun L _ o e => ⟨o.slots, up L o e⟩, gh1, e0.fzF, fun L hL z => e0.muF L hL (mu1 L z), fun L hL => let ⟨m, n⟩ := e0.frD L hL; ⟨m, n.keeps up⟩⟩
  have th1 : g1.th[hp.length]? = some (a, none) := by
    show (g.th ++ [(a, none)])[hp.length]? = _
    rw [e0.gh.len]; simp
  have q1 : RepL gc g1 h2 (.ref hp.length :: vs) (.ref a :: us) := by
    refine RepL.cons ?_ (RepL.mono m1 q)
    simp only [Rep]
    exact ⟨(a, none), th1, rfl⟩
  refine fn_open (k := k) (s := { s with heap := h2 }) (us := .ref a :: us) lk hcd Sc hb (hr.make Ca us []) e1 q1 (by simpa using hl.trans hnp) fun s1 E r1 f1 => ?_
  rw [hbd]
  let X0 : Fx := fxOf gc N qual scope f cdv (A.under (.builtin "type.__call__" ⟨.ref Ca :: us, []⟩)) outer h2 k
  let X : Fx := { X0 with h0 := s.heap }
  have r1x : SR X g1 _ s1 := r1.h0 s.heap (fun b o e => ⟨o, e0.base b o e⟩) (fun b o e => ⟨o, up b o e⟩)
  have n1x : StN X g1 { s with heap := h2 } g1 s1 := f1.toN.h0 s.heap (fun b o e => ⟨o, up b o e⟩)
  have hfr : ∀ b, s.heap.get? b = none → b < s.heap.objs.size + 2 → b ∉ L2.frs X.stack := fun b hn hlt hL => by
    have hL : b ∈ L2.frs (envOfC qual scope h2.objs.size f cdv :: outer) := hL
    rw [frs_cons rfl] at hL
    rcases List.mem_cons.mp hL with e | e
    · exact absurd (show b < s.heap.objs.size + 2 from hlt) (by rw [show b = h2.objs.size from e, hsz]; exact Nat.lt_irrefl _)
    · exact some_ne (funs_nobase e0.funs b e).2 hn
  have pin : ∀ b o, s.heap.get? b = none → b < s.heap.objs.size + 2 → h2.get? b = some o → NLst o → (∀ v, o.data ≠ .cell v) → Pin X g1 s1 b o := fun b o hn hlt he hnl hnc => by
    have hb1 : s1.heap.get? b = some o := f1.keep b o ⟨o, he⟩ he (fun z => some_ne (e0.gh.thIn b (mu1 b z)) hn) (hfr b hn hlt)
    refine ⟨hb1, hnl, fun z => some_ne (e0.gh.fzIn b z) hn, fun z => some_ne (e0.gh.thIn b (mu1 b z)) hn, fun z => ?_, fun y c e z => ?_, hfr b hn hlt⟩
    · exact absurd (show b < s.heap.objs.size + 2 from hlt) (by rw [show b = h2.objs.size from z, hsz]; exact Nat.lt_irrefl _)
    · obtain ⟨v, o2, e2, d2⟩ := r1x.cell y c e
      rw [z, hb1] at e2; cases e2
      exact hnc _ d2
  have pa1 : Pin X g1 s1 a (PySem.W.instObj Ca s.heap.objs.size) := pin _ _ na (Nat.lt_succ_self _) ea (NLst.of (by show Value.ref Ca ≠ .type "list"; intro z; cases z)) (fun v z => by cases z)
  have pd1 : Pin X g1 s1 s.heap.objs.size PySem.W.emptyDict := pin _ _ nd (Nat.lt_succ_of_lt (Nat.lt_succ_self _)) edx (NLst.dict (es := #[]) (ep := 0) rfl) (fun v z => by cases z)
  have hne : s.heap.objs.size ≠ a := Nat.ne_of_lt (Nat.lt_succ_self _)
  obtain ⟨hs1, hs2⟩ := hbody X rfl rfl rfl rfl (fun _ => rfl)
  rw [hnn] at hR
  refine wp_app (hs1.run g1 _ s1 _ _ r1x (hR.mono fun fl st2 h g2 s2 r2 f2 => ?_))
  cases fl with
  | nx =>
    have hv0 : N[0]? = some self := by
      have := Sc.pre
      have h0 : (N.take (self :: ps).length)[0]? = some self := by rw [this]; rfl
      rwa [List.getElem?_take_of_lt (by simp)] at h0
    have hvis : L2.Vis scope self := (Sc.par self (by simp)).elim .inl fun z => .inr (.inl z)
    have pa2 := f2.pin a _ pa1
    have pd2 := f2.pin _ _ pd1
    have nd0 : h2.Ns s.heap.objs.size (fun _ => none) := ⟨_, #[], _, edx, rfl, (fun e he => absurd he (by simp)), fun _ => rfl⟩
    have nd2 : s2.heap.Ns1 s.heap.objs.size (fldM [] []) := (Heap.Ns1.of_empty nd0).at fun o z => by
      rw [edx] at z; cases z
      exact pd2.obj
    refine sets_run (X := X) (dx := s.heap.objs.size) (a := a) (n := hp.length) M hv0 hvis hd hcl hne nd ini.fs setS hs2 [] g2 st2 s2 _ [] [] _ _ rfl r2 (f2.mono.thAt th1) pa2 pd2 nd2 RepL.nil rfl (h.mono fun ws st3 h g3 s3 us3 od3 r3 n3 a3 d3 m3 q3 l3 => ?_)
    have n := (n1x.trans f2.toN).trans n3
    let g4 : Gh := { g3 with fz := fun b => g3.fz b ∨ b = a ∨ b = s.heap.objs.size }
    have m4 : GMono g3 g4 s3.heap s3.heap := ⟨fun _ _ _ e => e, fun _ e => .inl e, ⟨[], by simp [g4]⟩, fun _ _ e => e⟩
    have gh4 : GhOk gc g4 st3.hp s3 := by
      refine ⟨fun b fb => ?_, r3.gh.thNd, fun b hb fb => ?_, r3.gh.thIn, r3.gh.thB, r3.gh.len, fun i p v e1 e2 => ?_, r3.gh.tk0, r3.gh.tkLt, r3.gh.tkPos⟩
      · rcases fb with z | z | z
        · exact r3.gh.fzIn b z
        · exact ⟨_, z ▸ a3.obj⟩
        · exact ⟨_, z ▸ d3.obj⟩
      · rcases fb with z | z | z
        · exact r3.gh.thFz b hb z
        · exact a3.mu (z ▸ hb)
        · exact d3.mu (z ▸ hb)
      · have c := r3.gh.cell i p v e1 e2
        cases v with
        | lst xs =>
          obtain ⟨e, us, l, rr⟩ := c
          exact ⟨e, us, l, RepL.mono m4 rr⟩
        | non => trivial
        | _ => exact c
    have inS : ∀ b, (∃ o, s.heap.get? b = some o) → b ∉ L2.frs outer → b ∉ L2.frs X.stack := fun b hb hn hL => by
      have hL : b ∈ L2.frs (envOfC qual scope h2.objs.size f cdv :: outer) := hL
      rw [frs_cons rfl] at hL
      rcases List.mem_cons.mp hL with e | e
      · obtain ⟨o, ho⟩ := hb
        have lt := Heap.lt_size ho
        rw [show b = h2.objs.size from e, hsz] at lt
        exact absurd lt (Nat.not_lt.mpr (Nat.le_add_right _ 2))
      · exact hn e
    have ce : CallEnd gc outer g s g4 st3.hp s3 := by
      refine ⟨n.os, r3.bare, ⟨fun b o e nm nf => n.keep b o ⟨o, e⟩ (up b o e) (fun z => nm (mu1 b z)) (inS b ⟨o, e⟩ nf), fun b o e nm => n.slot b o ⟨o, e⟩ (up b o e) (fun z => nm (mu1 b z)), fun b o e => n.there b o (up b o e)⟩, fun b e => .inl (n.mono.fz b e), fun b e => ?_, ?_, n.mono.tk, n.toks, gh4⟩
      · rcases e with z | z | z
        · exact n.fzNew b z
        · exact .inr (z ▸ na)
        · exact .inr (z ▸ nd)
      · obtain ⟨more, e, hm⟩ := n.th
        refine ⟨(a, none) :: more, ?_, fun p hp => ?_⟩
        · show g3.th = _
          rw [e]
          show (g.th ++ [(a, none)]) ++ more = _
          simp
        · rcases List.mem_cons.mp hp with z | z
          · rw [z]; exact fun b hb => by cases hb
          · exact hm p z
    refine ⟨rfl, h g4 s3 (.ref a) ce ?_⟩
    show Rep gc g4 s3.heap (.ins c (ini.fs.map (·.1)) ws) (.ref a)
    simp only [Rep]
    exact ⟨a, s.heap.objs.size, Ca, us3, rfl, .inr (.inl rfl), .inr (.inr rfl), a3.obj, hne, M.cls, M.cf, by rw [← l3]; rfl, m3, RepL.mono m4 q3⟩
  | bk => exact h.elim
  | ct => exact h.elim
  | rt v md => exact h.elim
end Q
end

section
set_option Elab.async false
set_option linter.all false
set_option maxRecDepth 100000
/-! CoreI4: fields, properties, methods of instances. -/
namespace Q
open PySem PySem.Spec PyProof.Rows PySem.Builtin
theorem rep_handed {gc : GC} {g : Gh} {h : Heap} {v : AV} {u : Value} (r : Rep gc g h v u) : PySem.W.handedIn u = true := by
  cases v <;> simp only [Rep] at r
  case non => subst r; rfl
  case bl => subst r; rfl
  case int => obtain ⟨t, rfl⟩ := r; rfl
  case str => obtain ⟨t, rfl, _⟩ := r; rfl
  case tup => obtain ⟨a, us, rfl, _⟩ := r; rfl
  case lst => obtain ⟨a, us, rfl, _⟩ := r; rfl
  case ref => obtain ⟨p, _, rfl⟩ := r; rfl
  case ins => obtain ⟨a, dx, C, us, rfl, _⟩ := r; rfl
  case ty => subst r; rfl
  case dct => obtain ⟨a, kt, us, rfl, _⟩ := r; rfl
theorem rv_handed {gc : GC} {s s' : Shared} {g : Gh} {b : Bool} {v : AV} {u : Value} (r : RV gc s g s' b v u) : PySem.W.handedIn u = true := by
  cases b with
  | false => exact rep_handed r
  | true =>
    obtain ⟨a, xs, us, rfl, _⟩ := r
    rfl
theorem ofStr_inj {a b : String} (h : Str.ofString a = Str.ofString b) : a = b := by
  rw [Str.ofString_eq_toList, Str.ofString_eq_toList] at h
  have h1 : a.toList.map Char.toNat = b.toList.map Char.toNat := by
    have h := congrArg (fun x : Str => x.cps.toList) h
    simpa using h
  have h2 : a.toList = b.toList := List.map_inj_right (fun x y e => Char.toNat_inj.mp e) |>.mp h1
  exact String.toList_inj.mp h2
/-- the instance behind a value -/
structure InsAt (gc : GC) (g : Gh) (h : Heap) (c : String) (ns : List String) (vs : List AV) (a dx C : Addr) (us : List Value) : Prop where
  obj : L2.ObjM h a dx C (fldM ns us)
  cls : gc.cls c = some C
  cf : ClsF gc.K C ns
  len : ns.length = vs.length
  vals : RepL gc g h vs us
theorem ins_of {gc : GC} {g : Gh} {h : Heap} {c : String} {ns : List String} {vs : List AV} {u : Value} (r : Rep gc g h (.ins c ns vs) u) : ∃ a dx C us, u = .ref a ∧ InsAt gc g h c ns vs a dx C us := by
  simp only [Rep] at r
  obtain ⟨a, dx, C, us, e, f, f2, o, ne, cl, cf, l, n, q⟩ := r
  exact ⟨a, dx, C, us, e, ⟨⟨o, n, ne⟩, cl, cf, l, q⟩⟩
theorem fld_get {f : String} : ∀ {ns : List String} {vs : List AV} {us : List Value} {gc : GC} {g : Gh} {h : Heap} {z : AV}, RepL gc g h vs us → insGet f ns vs = some z → (∀ n ∈ ns, Str.ofString n = Str.ofString f → n = f) → ∃ u, fldM ns us (Str.ofString f) = some u ∧ Rep gc g h z u
  | [], _, _, _, _, _, _, _, e, _ => by simp [insGet] at e
  | n :: ns, [], _, _, _, _, _, _, e, _ => by simp [insGet] at e
  | n :: ns, v :: vs, us, gc, g, h, z, r, e, inj => by
    simp only [RepL] at r
    obtain ⟨u, q, rfl, r1, r2⟩ := r
    unfold insGet at e
    unfold fldM
    rw [List.map_cons, List.zip_cons_cons, List.lookup_cons]
    by_cases hn : n = f
    · rw [if_pos hn] at e
      cases e
      rw [hn]
      simp only [BEq.rfl]
      exact ⟨u, rfl, r1⟩
    · rw [if_neg hn] at e
      have : (Str.ofString f == Str.ofString n) = false := by
        simpa using fun z => hn (inj n (by simp) z.symm)
      rw [this]
      exact fld_get r2 e fun m hm => inj m (List.mem_cons_of_mem _ hm)
/-- a property of a class -/
def PropQ (gc : GC) (k : Nat) (c f : String) (F : List AV → List AV → FR) : Prop := ∀ C, gc.cls c = some C → ∃ (pr fg : Addr) (rest : List Value) (j : Nat), j + 1 ≤ k ∧ PySem.W.findIn gc.K (.ref C) (Str.ofString f) = some (some (.ref pr)) ∧
  PySem.W.specialIn gc.K (.ref pr) "__get__" = some (some (.builtin "property.__get__")) ∧ PySem.W.takesIn gc.K (.ref pr) = some true ∧ PySem.W.recIn gc.K pr "property" = some (.ref fg :: rest) ∧ FnQ gc j fg F
/-- a method of a class -/
def MethQ (gc : GC) (k : Nat) (c f : String) (F : List AV → List AV → FR) : Prop := ∀ C, gc.cls c = some C → ∃ (fm : Addr) (j : Nat), j + 1 ≤ k ∧ PySem.W.findIn gc.K (.ref C) (Str.ofString f) = some (some (.ref fm)) ∧
  PySem.W.isFn gc.K (.ref fm) = true ∧ PySem.W.fnIn gc.K fm = true ∧ PySem.W.keepIn gc.K (.ref fm) = true ∧ FnQ gc j fm F
section
variable {X : Fx} {C : Oracle} {g g' : Gh} {st st' : S} {s s' : Shared} {u w : Value} {Q : Value → Shared → Prop} {E : Value → Shared → Prop}
variable {a b d : IE} {ea eb ed : Expr} {pos apos : Pos}
theorem callR_kr {r : FR} {st2 : S} {ok : AV × Md → S → Prop} (h : KR (callR r st2) ok) : FRok r fun v fr hp' => ok (v, mdOf fr) { st2 with hp := hp' } := by
  cases r with
  | ok v fr hp => exact h
  | stuck => exact h.elim
  | exc x hp => exact h.elim
theorem RV.toT {fr : Bool} {v : AV} (r : SR X g st s) (f' : FrE X g st s g' st' s') (hst : st'.sl = st.sl) (rv : RV X.gc s g' s' fr v u) : RepT X s.heap g' st' s' (mdOf fr) v u := by
  cases fr with
  | false => exact rv
  | true =>
    obtain ⟨a, xs, us, e1, e2, l, q, nf, nm, hn⟩ := rv
    exact ⟨a, xs, us, e1, e2, l, q, nf, nm, r.h0none hn, hn, fun o => some_ne (r.ownIn (f'.own _ o)) hn⟩
theorem CallOk.in1 {gc : GC} {A : Around} {outer : List Env} {g : Gh} {hp : List AV} {s : Shared} (e : CallOk gc A outer g hp s) : CallOk gc A.in1 outer g hp s := ⟨e.frames, e.mod, e.bk, e.base, e.bare, e.funs, e.gh, e.fzF, e.muF, e.frD⟩
theorem es_attr {f : String} {cs : List String} (ha : ESd X C a ea) (hb : attributeBase ea (Str.ofString f) X.env (eval ea X.env) = eval ea X.env) (O : ∀ c ∈ cs, PropQ X.gc X.k c f (C (c ++ "." ++ f))) :
    ESd X C (.attr a f cs) (.Attribute ea (Str.ofString f) pos) := ⟨fun g st s Q E r h => by
  rw [ev] at h; simp only [KR_bind] at h
  refine L2.attr_of hb (ha.run g st s _ _ r (h.mono fun x st1 h g1 s1 u r1 f1 t1 => ?_))
  have l := t1.look r1
  obtain ⟨v, md⟩ := x
  cases v with
  | ins c ns vs =>
    dsimp only at h
    obtain ⟨a0, dx, Ca, us, rfl, I⟩ := ins_of (show Rep X.gc g1 s1.heap (.ins c ns vs) u from l)
    split at h
    · rename_i hc
      obtain ⟨pr, fg, rest, j, hj, h1, h2, h3, h4, hf⟩ := O c (by simpa using hc) Ca I.cls
      obtain ⟨od, J, _⟩ := I.obj.look
      obtain ⟨r2, f2⟩ := r1.tok (k := s1.toks + 1) (Nat.le_succ _)
      have hd := PySem.W.plainGet_of (I.cf.get (Str.ofString f))
      refine PySem.W.get_bind (kIn r1) J hd.1 (PySem.W.findObj_data (by obtain ⟨cd, hc, _⟩ := PySem.W.any_some I.cf.dict; rw [hc]; rfl) h1 h2 h3) hd.2 (wpAny_call (PySem.W.prop_get (s := { s1 with toks := s1.toks + 1 }) (kIn r2) h4 ?_))
      have hroom : L2.Room j X.A.in1 := (r1.ok.room.mono hj).in1
      have hr := callR_kr h
      refine hf X.A.in1 X.stack { s1 with toks := s1.toks + 1 } g1 st1.hp [.ins c ns vs] [.ref a0] _ hroom r2.callOk.in1 (RepL.one (show Rep X.gc g1 s1.heap (.ins c ns vs) (.ref a0) from l)) (hr.mono fun z fr hp' h g' s' u' ce rv => ?_)
      obtain ⟨r3, f3⟩ := r2.after ce
      show wpAny _ _ (PySem.handedOut u') _ _ _
      rw [PySem.W.handedOut_of (rv_handed rv)]
      refine wpAny_pure (h g' s' u' r3 ((f1.trans f2).trans f3) ((rv.toT r2 f3 rfl).weak fun b e => f1.kp.none e))
    · simp only [KR_bind] at h
      obtain ⟨z, e, h⟩ := KR_ofO h
      obtain ⟨u', e1, ru⟩ := fld_get I.vals e fun n _ => ofStr_inj
      have hmem : f ∈ ns := by
        have key : ∀ (ns : List String) (vs : List AV), insGet f ns vs = some z → f ∈ ns := by
          intro ns
          induction ns with
          | nil => intro vs e; simp [insGet] at e
          | cons n ns ih =>
            intro vs e
            cases vs with
            | nil => simp [insGet] at e
            | cons v vs =>
              unfold insGet at e
              by_cases hn : n = f
              · rw [hn]; simp
              · rw [if_neg hn] at e
                exact List.mem_cons_of_mem _ (ih vs e)
        exact key ns vs e
      refine L2.get_map (kIn r1) I.obj (I.cf.get _) I.cf.dict (I.cf.no f hmem) e1 (rep_handed ru) ?_
      obtain ⟨r2, f2⟩ := r1.tok (k := s1.toks + 1) (Nat.le_succ _)
      exact h g1 _ u' r2 (f1.trans f2) ru
  | _ => exact h.elim⟩
end
end Q
end

section
set_option Elab.async false
set_option linter.all false
set_option maxRecDepth 100000
/-! CoreI5: own methods. -/
namespace Q
open PySem PySem.Spec PyProof.Rows PySem.Builtin
section
variable {X : Fx} {C : Oracle} {g g' : Gh} {st st' : S} {s s' : Shared} {u w : Value} {Q : Value → Shared → Prop} {E : Value → Shared → Prop}
variable {a b d : IE} {ea eb ed : Expr} {pos apos : Pos}
/-- the state behind a callee that ran a step below -/
theorem meth_run {j : Nat} {fm : Addr} {F : List AV → List AV → FR} {vs : List AV} {us : List Value} {A : Around} {R : Result → Shared → Prop} (h : FnQ X.gc j fm F) (r : SR X g st s) (hr : L2.Room j A) (hA : CallOk X.gc A X.stack g st.hp s) (q : RepL X.gc g s.heap vs us)
    (hq : FRok (F vs st.hp) fun v fr hp' => ∀ g' s' u, SR X g' { st with hp := hp' } s' → FrE X g st s g' { st with hp := hp' } s' → RepT X s.heap g' { st with hp := hp' } s' (mdOf fr) v u → PySem.W.handedIn u = true → R (.ok (.ret u)) s') :
    codeAny (model X.gc.P X.gc.w) A (.call (.ref fm) ⟨us, []⟩) R s :=
  h A X.stack s g st.hp vs us R hr hA q (hq.mono fun v fr hp' k g' s' u ce rv => by
    obtain ⟨r', f'⟩ := r.after ce
    exact k g' s' u r' f' (rv.toT r f' rfl) (rv_handed rv))
theorem dun_kr {d c : String} {cs : List String} {C : Oracle} {ns : List String} {vs ws : List AV} {st2 : S} {ok : AV × Md → S → Prop} (h : KR ((callR (C (c ++ "." ++ d) (.ins c ns vs :: ws) st2.hp) st2).bind fun z s => if dunOk d z.1 then .ok z s else .stuck) ok) :
    FRok (C (c ++ "." ++ d) (.ins c ns vs :: ws) st2.hp) fun v fr hp' => dunOk d v = true ∧ ok (v, mdOf fr) { st2 with hp := hp' } := by
  rw [KR_bind] at h
  refine (callR_kr h).mono fun v fr hp' k => ?_
  by_cases e : dunOk d v = true
  · rw [if_pos e] at k; exact ⟨e, k⟩
  · rw [if_neg e] at k; exact k.elim
/-- len(o) -/
theorem es_dlen {cs : List String} {p : Pos} (ha : ESd X C a ea) (hs : noStar ea = true) (hg : Gl X "len") (hm : X.gc.mg "len" = none) (O : ∀ c ∈ cs, MethQ X.gc X.k c "__len__" (C (c ++ "." ++ "__len__"))) :
    ESd X C (.dun "__len__" cs a []) (.Call (.Name "len" p) [ea] [] pos) := ⟨fun g st s Q E r h => by
  rw [ev] at h; simp only [KR_bind] at h
  obtain ⟨b1, b2, b3⟩ := bfN_ok .len
  refine wpAny_Call_Name_kw (ld_blt r hg hm b1 ?_ b2 b3)
  refine PyProof.Rows.callWith_builtin1 ?_ (star_cons hs) rfl
  rw [star_cons hs]
  refine Calls.spliced_cons (ha.run g st s _ _ r (h.mono fun x st1 h g1 s1 u r1 f1 t1 => Calls.spliced_nil ?_))
  have l := t1.look r1
  obtain ⟨v, md⟩ := x
  cases v with
  | ins c ns vs =>
    dsimp only at h
    obtain ⟨a0, dx, Ca, us, rfl, I⟩ := ins_of (show Rep X.gc g1 s1.heap (.ins c ns vs) u from l)
    split at h
    case isFalse => exact h.elim
    rename_i hc
    rw [evs] at h; simp only [Res.bind_ok] at h
    obtain ⟨fm, j, hj, h1, h2, h3, h4, hf⟩ := O c (by simpa using hc) Ca I.cls
    obtain ⟨od, J, _⟩ := I.obj.look
    have hr := dun_kr (cs := cs) h
    refine Calls.call_function_entry kind_len plain_len entry_len (args_len1 _) ?_
    unfold Builtin.«len»
    refine wpAny_bind (m := oneArg "len" _) (wpAny_pure (wpAny_bind (m := callSpecial? (.ref a0) (Str.ofString "__len__")) ?_))
    refine PySem.W.special_fn (kIn r1) J h1 (beq_iff_eq.mp h2) (wpAny_call ?_)
    refine meth_run (vs := [.ins c ns vs]) hf r1 (r1.ok.room.mono hj).in1 r1.callOk.in1 (RepL.one (show Rep X.gc g1 s1.heap (.ins c ns vs) (.ref a0) from l)) (hr.mono fun z fr hp' ⟨ok, h⟩ g2 s2 u2 r2 f2 t2 hh => ?_)
    cases z with
    | int i =>
      rw [dunOk_len, decide_eq_true_eq] at ok
      have l2 := t2.look r2
      simp only [RepB, Rep] at l2
      obtain ⟨t, rfl⟩ := l2
      refine wpAny_bind (wpAny_holding (wpAny_pure (wpAny_bind (wpAny_letGo ?_))))
      show wpAny _ _ (if i < 0 then _ else _) _ _ _
      rw [if_neg (by omega)]
      show wpAny _ _ (if i ≥ 2 ^ 63 then _ else _) _ _ _
      rw [if_neg (by omega)]
      have hmd : mdOf fr = .fz := by
        cases fr with
        | false => rfl
        | true =>
          obtain ⟨b, xs, ws, _, e, _⟩ := t2
          cases e
      rw [hmd] at h
      obtain ⟨r3, f3⟩ := r2.tok (k := s2.toks + 1) (Nat.le_succ _)
      exact wpAny_bind (wpAny_mkInt (wpAny_pure ⟨_, rfl, h g2 _ _ r3 ((f1.trans f2).trans f3) (rep_int (gc := X.gc) (g := g2) (h := s2.heap))⟩))
    | _ => simp [dunOk] at ok
  | _ => exact h.elim⟩
/-- the arguments, then an own method runs -/
theorem callOk_keep (r : SR X g st s) : CallOk X.gc X.A X.stack g st.hp s := r.callOk
theorem run_meth {c m : String} {ns : List String} {vs ws : List AV} {cs : List String} {us : List Value} {ux : Value} {fm : Addr} {j : Nat} (hf : FnQ X.gc j fm (C (c ++ "." ++ m))) (hj : j ≤ X.k) (r : SR X g st s) (q0 : Rep X.gc g s.heap (.ins c ns vs) ux) (q : RepL X.gc g s.heap ws us)
    (h : KR ((callR (C (c ++ "." ++ m) (.ins c ns vs :: ws) st.hp) st).bind fun z s => if dunOk m z.1 then .ok z s else .stuck) (EQ X g st s Q)) :
    codeAny (model X.gc.P X.gc.w) X.A (.call (.ref fm) ⟨ux :: us, []⟩) (fun r s' => match r with | .ok (.ret v) => Q v s' | .ok _ => False | .error e => E e s') s :=
  meth_run (vs := .ins c ns vs :: ws) hf r (r.ok.room.mono hj) r.callOk (RepL.cons q0 q) ((dun_kr (cs := cs) h).mono fun z fr hp' ⟨_, h⟩ g2 s2 u2 r2 f2 t2 _ => h g2 s2 u2 r2 f2 t2)
/-- o(..) -/
theorem es_icall {cs : List String} {is : List IE} {x : Str} {np : Pos} {e : Expr} {es : List Expr} (ha : ESd X C a (.Name x np)) (hb : EAd X C is (e :: es)) (hs : (e :: es).all noStar = true) (O : ∀ c ∈ cs, MethQ X.gc X.k c "__call__" (C (c ++ "." ++ "__call__"))) :
    ESd X C (.dun "__call__" cs a is) (.Call (.Name x np) (e :: es) [] pos) := ⟨fun g st s Q E r h => by
  rw [ev] at h; simp only [KR_bind] at h
  refine wpAny_Call_Name_kw (ha.run g st s _ _ r (h.mono fun x st1 h g1 s1 u r1 f1 t1 => ?_))
  have l := t1.look r1
  obtain ⟨v, md⟩ := x
  cases v with
  | ins c ns vs =>
    dsimp only at h
    obtain ⟨a0, dx, Ca, us, rfl, I⟩ := ins_of (show Rep X.gc g1 s1.heap (.ins c ns vs) u from l)
    split at h
    case isFalse => exact h.elim
    rename_i hc
    rw [KR_bind] at h
    obtain ⟨fm, j, hj, h1, h2, h3, h4, hf⟩ := O c (by simpa using hc) Ca I.cls
    obtain ⟨od, J, _⟩ := I.obj.look
    rw [List.all_cons, Bool.and_eq_true] at hs
    refine PySem.W.kco_callWith (kIn r1) J rfl h1 (hb.run pos g1 st1 s1 _ _ r1 (h.mono fun ws st2 h g2 s2 us2 r2 f2 q2 => ?_)) (star_cons hs.1) (star_all hs.2)
    have l2 : Rep X.gc g2 s2.heap (.ins c ns vs) (.ref a0) := Rep.mono (f2.mono r1) l
    have J2 : PySem.W.InstAt s2.heap a0 (PySem.W.instObj Ca dx) Ca (some od) := by
      obtain ⟨_, _, _, jd⟩ := J
      have fzs : g1.fz a0 ∧ g1.fz dx := by
        have l := l
        simp only [RepB, Rep] at l
        obtain ⟨a1, dx1, C1, us1, e1, z1, z2, z3, _⟩ := l
        cases e1
        have := I.obj.obj
        rw [z3] at this
        cases this
        exact ⟨z1, z2⟩
      exact ⟨(f2.mono r1).obj _ _ fzs.1 I.obj.obj, rfl, rfl, (f2.mono r1).obj _ _ fzs.2 jd⟩
    refine ⟨⟨kIn r2, J2⟩, wpAny_call (PySem.W.kco_code (kIn r2) J2 rfl h1 h2 h3 ?_)⟩
    exact run_meth (cs := cs) hf (by omega) r2 l2 q2 (h.mono fun z st3 h => EQ.from (f1.trans f2) h)
  | _ => exact h.elim⟩
/-- o.m(e, ..) -/
theorem es_mcall {m : String} {cs : List String} {is : List IE} {e : Expr} {es : List Expr} {pl : Sem Bool} (ha : ESd X C a ea) (hb : EAd X C is (e :: es)) (hs : (e :: es).all noStar = true) (O : ∀ c ∈ cs, MethQ X.gc X.k c m (C (c ++ "." ++ m)))
    (ht : eval (.Call (.Attribute ea (Str.ofString m) apos) (e :: es) [] pos) X.env = (do
      let ov ← eval ea X.env
      standAt apos.atName
      let (f, first) ← holding [ov] (getMethod ov (Str.ofString m) pl)
      callWith pos f first (backTo pos (starEach (e :: es) X.env)) (backToKw pos (keywordEach [] X.env)))) :
    ESd X C (.dun m cs a is) (.Call (.Attribute ea (Str.ofString m) apos) (e :: es) [] pos) := ⟨fun g st s Q E r h => by
  rw [ev] at h; simp only [KR_bind] at h
  refine PySem.W.methodCall_KW (pl := pl) (ha.run g st s _ _ r (h.mono fun x st1 h g1 s1 u r1 f1 t1 => ?_)) ht
  have l := t1.look r1
  obtain ⟨v, md⟩ := x
  cases v with
  | ins c ns vs =>
    dsimp only at h
    obtain ⟨a0, dx, Ca, us, rfl, I⟩ := ins_of (show Rep X.gc g1 s1.heap (.ins c ns vs) u from l)
    split at h
    case isFalse => exact h.elim
    rename_i hc
    rw [KR_bind] at h
    obtain ⟨fm, j, hj, h1, h2, h3, h4, hf⟩ := O c (by simpa using hc) Ca I.cls
    have hno : fldM ns us (Str.ofString m) = none := by
      refine lookup_zip_none _ _ _ fun z => ?_
      obtain ⟨n, hn, e⟩ := List.mem_map.mp z
      have := I.cf.no n hn
      rw [e, h1] at this
      cases this
    rw [List.all_cons, Bool.and_eq_true] at hs
    refine L2.get_meth (kIn r1) I.obj (I.cf.get _) h1 h2 hno ?_
    refine PySem.W.callWith_K (first := [.ref a0]) (h₀ := X.gc.base) r1.ok.mod.kin h4 (hb.run pos g1 st1 s1 _ _ r1 (h.mono fun ws st2 h g2 s2 us2 r2 f2 q2 => ⟨kIn r2, wpAny_call ?_⟩)) (star_cons hs.1) (star_all hs.2)
    exact run_meth (cs := cs) hf (by omega) r2 (Rep.mono (f2.mono r1) l) q2 (h.mono fun z st3 h => EQ.from (f1.trans f2) h)
  | _ => exact h.elim⟩
end
end Q
end

section
set_option Elab.async false
set_option linter.all false
set_option maxRecDepth 100000
/-! CoreZ: enumerate. -/
namespace Q
open PySem PySem.Spec PyProof.Rows PySem.Builtin
section
variable {X : Fx} {C : Oracle} {g g' : Gh} {st st' : S} {s s' : Shared} {u w : Value} {E : Value → Shared → Prop} {a : Addr}
/-- an object that the relation says nothing of is frozen -/
theorem SR.frzAt {o : Obj} (r : SR X g st s) (ho : s.heap.get? a = some o) (nb : NB X g st s a) : SR X (g.frz a) st s ∧ GMono g (g.frz a) s.heap s.heap := by
  have mono : GMono g (g.frz a) s.heap s.heap := ⟨fun _ _ _ e => e, fun _ e => .inl e, ⟨[], by simp [Gh.frz]⟩, fun _ _ e => e⟩
  refine ⟨⟨r.ok, r.bare, r.base, r.ent, r.funs, r.ns, r.cell, ?_, fun z => z.elim r.fzL fun e => nb.loc e.symm, fun x c e z => z.elim (r.fzC x c e) fun e' => nb.cell x c e e', fun L hL z => z.elim (r.fzF L hL) fun e => nb.fr (e ▸ hL),
    r.muL, r.muC, r.muF, fun i v ow e hv => ?_, r.dist, r.len, r.frD⟩, mono⟩
  · refine ⟨fun b f => f.elim (r.gh.fzIn b) fun e => ⟨o, e ▸ ho⟩, r.gh.thNd, fun b hb z => z.elim (r.gh.thFz b hb) fun e => nb.mu (e ▸ hb), r.gh.thIn, r.gh.thB, r.gh.len, fun i p v e1 e2 => ?_, r.gh.tk0, r.gh.tkLt, r.gh.tkPos⟩
    have q := r.gh.cell i p v e1 e2
    cases v with
    | lst xs =>
      obtain ⟨e, us, l, rr⟩ := q
      exact ⟨e, us, l, RepL.mono mono rr⟩
    | non => trivial
    | _ => exact q
  · obtain ⟨u0, a0, sv⟩ := r.slot i v ow e hv
    refine ⟨u0, a0, ?_⟩
    cases ow with
    | false => exact Rep.mono mono sv
    | true =>
      obtain ⟨b, xs, us, e1, e2, l, q, nf, nm, hl⟩ := sv
      exact ⟨b, xs, us, e1, e2, l, RepL.mono mono q, fun z => z.elim nf fun e3 => nb.ow ⟨i, v, e, by subst e3; exact e1 ▸ a0⟩, nm, hl⟩
/-- a turn that gives a new tuple of two -/
theorem pair_turn {fp : List Addr} {h' : Heap} {k : Nat} {x y : AV} {v w : Value} (r : SR X g st s) (hp : ∀ b ∈ fp, Pn X g s b) (kp : ∀ b o, b ∉ fp → s.heap.get? b = some o → h'.get? b = some o) (hk : s.toks ≤ k)
    (ht : h'.get? s.heap.objs.size = some { cls := .type "tuple", data := .seq #[v, w] }) (rx : Rep X.gc g h' x v) (ry : Rep X.gc g h' y w) :
    ∃ g', SR X g' st { s with heap := h', toks := k } ∧ ItE fp g s g' { s with heap := h', toks := k } ∧ Rep X.gc g' h' (.tup [x, y]) (.ref s.heap.objs.size) ∧ GMono g g' h' h' := by
  have hn : s.heap.get? s.heap.objs.size = none := Heap.get?_none_of_le (Nat.le_refl _)
  have r1 := r.keepBut (fp := fp) (fun b hb => (hp b hb).nb r) kp hk
  have nb : NB X g st { s with heap := h', toks := k } s.heap.objs.size := ⟨fun z => some_ne (r.gh.fzIn _ z) hn, fun z => some_ne (r.gh.thIn _ z) hn, fun z => some_ne (z ▸ r.locIn) hn, fun x c e z => some_ne (z ▸ r.cellIn e) hn, fun z => some_ne (r.frIn z) hn, fun o => (by
    obtain ⟨us, _, n, e⟩ := own_lst r1 o
    rw [show ({ s with heap := h', toks := k } : Shared).heap.get? s.heap.objs.size = _ from ht] at e
    have e : some (Value.type "tuple") = some (Value.type "list") := congrArg (fun o : Option Obj => o.map Obj.cls) e
    exact absurd e (by decide)), r.h0none hn⟩
  obtain ⟨r2, m2⟩ := r1.frzAt ht nb
  refine ⟨_, r2, ⟨rfl, kp, fun b z => .inl z, fun b z => z.elim .inl fun e => .inr (e ▸ hn), rfl, fun _ _ e => e, hk⟩, ?_, m2⟩
  simp only [Rep]
  refine ⟨s.heap.objs.size, [v, w], rfl, .inr rfl, ⟨by show 2 ≤ LIM; decide, ⟨_, ht, rfl, 0, rfl⟩, fun o e => by rw [ht] at e; cases e; rfl⟩, ?_⟩
  exact RepL.cons (Rep.mono m2 rx) (RepL.one (Rep.mono m2 ry))

def TE (e it p : Addr) (us : List Value) (xs : List AV) (gc : GC) : Nat → Gh → Heap → Prop := fun i g h => e ≠ it ∧ (∃ old, IsEnum h e it (i : Int) old) ∧ h.IsListIter it p i ∧ g.fz p ∧ LstAt h p us ∧ RepL gc g h xs us
theorem enumL_get : ∀ (xs : List AV) (k : Int) (i : Nat), (enumL k xs)[i]? = (xs[i]?).map fun x => .tup [.int (k + i), x]
  | [], k, i => by simp [enumL]
  | x :: r, k, 0 => by simp [enumL]
  | x :: r, k, i + 1 => by
    rw [enumL, List.getElem?_cons_succ, enumL_get r (k + 1) i, List.getElem?_cons_succ]
    have : k + 1 + (i : Int) = k + ((i + 1 : Nat) : Int) := by omega
    rw [this]
theorem enumL_len : ∀ (xs : List AV) (k : Int), (enumL k xs).length = xs.length
  | [], _ => rfl
  | x :: r, k => by rw [enumL, List.length_cons, List.length_cons, enumL_len r]
theorem iter_enum {gc : GC} {elts : List Expr} {kk : Nat} {tpos : Pos} {e it p : Addr} {xs : List AV} {us : List Value} : Iter gc (.Tuple elts kk tpos) (enumL 0 xs) e [e, it] (TE e it p us xs gc) where
  obj i g h t b hb := by
    obtain ⟨_, ⟨old, he⟩, ⟨o, e2, c, _⟩, _⟩ := t
    rcases List.mem_cons.mp hb with z | z
    · rw [z]; exact ⟨_, he, show Value.type "enumerate" ≠ .type "list" by decide⟩
    · rw [List.mem_singleton.mp z]; exact ⟨o, e2, by rw [c]; decide⟩
  keep i g g' h h' t m k := by
    obtain ⟨ne, ⟨old, he⟩, ⟨o, e2, c, d⟩, f, l, q⟩ := t
    exact ⟨ne, ⟨old, k e (by simp) _ he⟩, ⟨o, k it (by simp) o e2, c, d⟩, m.fz p f, l.mono fun o z => m.obj p o f z, RepL.mono m q⟩
  item X hX i x g st s Q E hx r t hp hq := by
    obtain ⟨ne, ⟨old, he⟩, ti, f, l, q⟩ := t
    subst hX
    rw [enumL_get] at hx
    obtain ⟨y, hy, rfl⟩ := Option.map_eq_some_iff.mp hx
    obtain ⟨u, hu, ru⟩ := q.get hy
    refine wpAny_pyNext_enum_item he ti (isList_of l) (by simpa using hu) ne fun h1 o1 ti1 ht1 hs1 k1 => ⟨_, rfl, ?_⟩
    refine wpAny_letOwnedTupleGo_enum (s := { s with heap := h1, toks := s.toks + 1 }) o1 fun h2 he2 sb => ?_
    have k2 : ∀ b o, b ∉ [e, it] → s.heap.get? b = some o → h2.get? b = some o := fun b o n z => by
      simp only [List.mem_cons, List.not_mem_nil, or_false, not_or] at n
      exact (sb.2 b n.1).trans (k1 b o n.1 n.2 z)
    have lt : ∀ b ∈ [e, it], b ≠ s.heap.objs.size := fun b hb z => by
      obtain ⟨⟨o, pp⟩, _⟩ := hp b hb
      have := Heap.lt_size pp.obj
      rw [z] at this
      exact Nat.lt_irrefl _ this
    have ht2 : h2.get? s.heap.objs.size = some { cls := .type "tuple", data := .seq #[.int i s.toks, u] } := (sb.2 _ (Ne.symm (lt e (by simp)))).trans ht1
    have nf : ∀ b ∈ [e, it], ¬ g.fz b := fun b hb => let ⟨⟨o, pp⟩, _⟩ := hp b hb; pp.fz
    have m0 : GMono g g s.heap h2 := ⟨fun b o fb z => k2 b o (fun y => nf b y fb) z, fun _ z => z, ⟨[], by simp⟩, fun _ _ z => z⟩
    obtain ⟨g2, r2, e2, q2, m2⟩ := pair_turn (k := s.toks + 1) (x := .int (0 + i)) (y := y) r hp k2 (Nat.le_succ _) ht2 (by simp only [Rep]; exact ⟨s.toks, by rw [Int.zero_add]⟩) (Rep.mono m0 ru)
    have mt := m0.trans m2
    refine hq g2 _ _ r2 e2 q2 ⟨ne, ⟨_, by exact_mod_cast he2⟩, ti1.at fun o z => (sb.2 it (Ne.symm ne)).trans z, mt.fz p f, l.mono fun o z => mt.obj p o f z, RepL.mono mt q⟩
  done X hX g st s Q E r t hp hq := by
    obtain ⟨ne, ⟨old, he⟩, ti, f, l, q⟩ := t
    subst hX
    rw [enumL_len] at he ti
    refine wpAny_pyNext_enum_end r.ok.hd he ti (isList_of l) (by simp [q.length]) fun h' hx => ?_
    have kp : ∀ b o, b ∉ [e, it] → s.heap.get? b = some o → h'.get? b = some o := fun b o n z => hx b o (fun y => n (by simp [y])) z
    have r1 := r.keepBut (fp := [e, it]) (h' := h') (k := s.toks) (fun b hb => (hp b hb).nb r) kp (Nat.le_refl _)
    exact ⟨rfl, hq _ r1 ⟨rfl, kp, fun _ h => h, fun _ h => .inl h, rfl, fun _ _ e => e, Nat.le_refl _⟩⟩
  self A i g s Q E t h := let ⟨_, ⟨_, he⟩, _⟩ := t; wpAny_pyIter_enum he h
/-- a new object of an iterator -/
theorem SR.newPn {b : Addr} {o : Obj} {h' : Heap} {k : Nat} (r : SR X g st s) (hn : s.heap.get? b = none) (ho : h'.get? b = some o) (hl : NLst o) : Pn X g { s with heap := h', toks := k } b :=
  ⟨⟨o, ho, hl, fun z => some_ne (r.gh.fzIn _ z) hn, fun z => some_ne (r.gh.thIn _ z) hn, fun z => some_ne (z ▸ r.locIn) hn, fun x c e z => some_ne (z ▸ r.cellIn e) hn, fun z => some_ne (r.frIn z) hn⟩, r.h0none hn⟩
theorem boot_enum : bootBuiltins ("enumerate" : Str) = some (.type "enumerate") := by decide +kernel
theorem ei_enum {ia : IE} {ea : Expr} {p pos tpos : Pos} {elts : List Expr} {kk : Nat} (ha : ESd X C ia ea) (hs : noStar ea = true) (hg : Gl X "enumerate") (hm : X.gc.mg "enumerate" = none) :
    EId X C (.enum ia) (.Call (.Name "enumerate" p) [ea] [] pos) (.Tuple elts kk tpos) := ⟨fun g st s Q E r h => by
  rw [evI] at h; simp only [KR_bind] at h
  refine wpAny_Call_Name_kw (ld_blt r hg hm boot_enum ?_ (by decide) (by decide))
  refine PyProof.Rows.callWith_type1 ?_ (star_cons hs) rfl
  rw [star_cons hs]
  refine Calls.spliced_cons (ha.run g st s _ _ r (h.mono fun x st1 h g1 s1 u r1 f1 t1 => Calls.spliced_nil ?_))
  obtain ⟨g2, r2, f2, q2, m2⟩ := esc f1 r1 t1
  obtain ⟨v, md⟩ := x
  cases v with
  | lst xs =>
    dsimp only at h
    simp only [Rep] at q2
    obtain ⟨l0, us, rfl, hf, l, q⟩ := q2
    refine call_enumerate_list (isList_of l) fun h' he hit hsz hk => wpAny_pyIter_enum he ?_
    obtain ⟨r3, f3⟩ := r2.ext (h' := h') (k := s1.toks) hk (Nat.le_refl _)
    have n0 : s1.heap.get? s1.heap.objs.size = none := Heap.get?_none_of_le (Nat.le_refl _)
    have n1 : s1.heap.get? (s1.heap.objs.size + 1) = none := Heap.get?_none_of_le (Nat.le_succ _)
    have ob : ∃ o, h'.get? s1.heap.objs.size = some o ∧ NLst o := by
      obtain ⟨o, e, c, _⟩ := hit
      exact ⟨o, e, NLst.of (by rw [c]; decide)⟩
    obtain ⟨o, eo, no⟩ := ob
    have m3 := f3.mono r2
    refine h g2 _ _ [s1.heap.objs.size + 1, s1.heap.objs.size] (TE _ _ l0 us _ X.gc) r3 (f2.trans f3) iter_enum ⟨Nat.succ_ne_self _, ⟨.none, by exact_mod_cast he⟩, hit, hf, l.mono fun o z => m3.obj l0 o hf z, RepL.mono m3 q⟩ fun b hb => ?_
    rcases List.mem_cons.mp hb with z | z
    · rw [z]; exact ⟨f2.kp.none n1, r2.newPn n1 he (NLst.of (show Value.type "enumerate" ≠ .type "list" by decide))⟩
    · rw [List.mem_singleton.mp z]; exact ⟨f2.kp.none n0, r2.newPn n0 eo no⟩
  | _ => exact h.elim⟩
end
end Q
end

section
set_option Elab.async false
set_option linter.all false
set_option maxRecDepth 100000
/-! CoreZ2: zip of two iterators of any kind. -/
namespace Q
open PySem PySem.Spec PyProof.Rows PySem.Builtin
/-- an iterator as zip asks it; fp: the objects that it needs -/
structure Nx (P : Program) (w : World) (it : Addr) (fp : List Addr) (St : Nat → Heap → Prop) (xs : Array Value) : Prop where
  item : ∀ (A : Around) (E : Value → Shared → Prop) (s : Shared) (k : Nat) (x : Value) (Q : Value → Shared → Prop), St k s.heap → xs[k]? = some x → (∀ h', St (k + 1) h' → Heap.SameBut it s.heap h' → Q x { s with heap := h' }) → wpAny (model P w) A (Builtin.SmallTypes.nextOf (.ref it)) Q E s
  done : ∀ (A : Around) (E : Value → Shared → Prop) (s : Shared) (k : Nat) (Q : Value → Shared → Prop), A.handled = none → St k s.heap → xs[k]? = none →
    (∀ h' e, Heap.ExtBut it s.heap h' → (∃ o, h'.get? e = some o ∧ o.cls = .type "StopIteration") → E (.ref e) { s with heap := h' }) → wpAny (model P w) A (Builtin.SmallTypes.nextOf (.ref it)) Q E s
  keep : ∀ k h h', St k h → (∀ b ∈ fp, ∀ o, h.get? b = some o → h'.get? b = some o) → St k h'
  at_ : ∀ k h, St k h → ∃ o, h.get? it = some o
  self : it ∈ fp
theorem nx_list {P : Program} {w : World} {it l : Addr} {xs : Array Value} : Nx P w it [it, l] (fun k h => h.IsListIter it l k ∧ h.IsList l xs ∧ it ≠ l) xs where
  item A E s k x Q st hx h := wpAny_nextOf_list_item st.1 st.2.1 hx fun h' ti sb => h h' ⟨ti, st.2.1.at fun o e => (sb.2 l (Ne.symm st.2.2)).trans e, st.2.2⟩ sb
  done A E s k Q hh st hx h := wpAny_nextOf_list_end hh st.1 st.2.1 hx h
  keep k h h' st kp := ⟨st.1.at fun o e => kp it (by simp) o e, st.2.1.at fun o e => kp l (by simp) o e, st.2.2⟩
  at_ k h st := let ⟨o, e, _⟩ := st.1; ⟨o, e⟩
  self := by simp
theorem nx_tuple {P : Program} {w : World} {it l : Addr} {xs : Array Value} : Nx P w it [it, l] (fun k h => h.IsTupleIter it l k ∧ h.IsTuple l xs ∧ it ≠ l) xs where
  item A E s k x Q st hx h := RZ.nextOf_tuple_item st.1 st.2.1 hx fun h' ti sb => h h' ⟨ti, st.2.1.at fun o e => (sb.2 l (Ne.symm st.2.2)).trans e, st.2.2⟩ sb
  done A E s k Q hh st hx h := RZ.nextOf_tuple_end hh st.1 st.2.1 hx h
  keep k h h' st kp := ⟨st.1.at fun o e => kp it (by simp) o e, st.2.1.at fun o e => kp l (by simp) o e, st.2.2⟩
  at_ k h st := let ⟨o, e, _⟩ := st.1; ⟨o, e⟩
  self := by simp
/-- what is apart -/
structure Apart (z TI TO i1 i2 : Addr) (f1 f2 : List Addr) : Prop where
  a1 : TI ≠ z
  a2 : TO ≠ z
  a3 : TI ≠ TO
  b1 : z ∉ f1
  b2 : TO ∉ f1
  b3 : i2 ∉ f1
  b4 : TI ∉ f1
  c1 : z ∉ f2
  c2 : TO ∉ f2
  c3 : i1 ∉ f2
  c4 : TI ∉ f2
section
variable {P : Program} {w : World} {A : Around} {E : Value → Shared → Prop} {s : Shared} {z TI TO i1 i2 : Addr} {f1 f2 : List Addr} {S1 S2 : Nat → Heap → Prop} {xs ys : Array Value}
theorem sb_keep {a : Addr} {h h' : Heap} {fp : List Addr} (sb : Heap.SameBut a h h') (n : a ∉ fp) : ∀ b ∈ fp, ∀ o, h.get? b = some o → h'.get? b = some o := fun b hb o e => (sb.2 b (fun q => n (q ▸ hb))).trans e
theorem eb_keep {a : Addr} {h h' : Heap} {fp : List Addr} (sb : Heap.ExtBut a h h') (n : a ∉ fp) : ∀ b ∈ fp, ∀ o, h.get? b = some o → h'.get? b = some o := fun b hb o e => sb b o (fun q => n (q ▸ hb)) e
theorem zipG_item {k1 k2 : Nat} {x y a b : Value} {Q : Value → Shared → Prop} (N1 : Nx P w i1 f1 S1 xs) (N2 : Nx P w i2 f2 S2 ys) (D : Apart z TI TO i1 i2 f1 f2)
    (hz : IsZip s.heap z TI TO .none) (hI : IsPair s.heap TI (.ref i1) (.ref i2)) (hO : IsPair s.heap TO a b) (h1 : S1 k1 s.heap) (h2 : S2 k2 s.heap) (hx : xs[k1]? = some x) (hy : ys[k2]? = some y)
    (hQ : ∀ h', IsZip h' z TI TO (rawInt s.heap.objs.size) → IsPair h' TO x y → S1 (k1 + 1) h' → S2 (k2 + 1) h' → IsPair h' s.heap.objs.size x y →
      (∀ c o, c ≠ z → c ≠ TO → c ≠ i1 → c ≠ i2 → s.heap.get? c = some o → h'.get? c = some o) → Q (.ref s.heap.objs.size) { s with heap := h' }) :
    wpAny (model P w) A (Builtin.«zip.__next__» ⟨[.ref z], []⟩) (fun fin s' => ∃ v, fin = .done (.ret v) ∧ Q v s') E s := by
  have ni1z : i1 ≠ z := fun q => D.b1 (q ▸ N1.self)
  have ni2z : i2 ≠ z := fun q => D.c1 (q ▸ N2.self)
  have nOi1 : TO ≠ i1 := fun q => D.b2 (q ▸ N1.self)
  have nOi2 : TO ≠ i2 := fun q => D.c2 (q ▸ N2.self)
  have n12 : i1 ≠ i2 := fun q => D.c3 (q ▸ N2.self)
  show wpAny _ _ (field (.ref z) 2 >>= _) _ _ _
  refine wpAny_bind (wpAny_field hz rfl (x := .bool false) rfl ?_)
  show wpAny _ _ (field (.ref z) 3 >>= _) _ _ _
  refine wpAny_bind (wpAny_field hz rfl (x := .ref TI) rfl (wpAny_bind (wpAny_seqItems hI rfl ?_)))
  show wpAny _ _ (Builtin.SmallTypes.ownedTupleIsFree (.ref z) >>= _) _ _ _
  refine wpAny_bind ?_
  unfold Builtin.SmallTypes.ownedTupleIsFree
  refine wpAny_bind (wpAny_field hz rfl (x := .none) rfl (wpAny_pure ?_))
  simp only [if_true]
  refine wpAny_bind (wpAny_rule (wpAny_bind (wpAny_field hz rfl (x := .ref TO) rfl (wpAny_bind (wpAny_setField_rec hz (by simp) fun g1 z1 s1 => ?_)))))
  replace z1 : IsZip g1 z TI TO .ellipsis := z1
  refine wpAny_bind ?_
  simp only [List.zipIdx_cons, List.zipIdx_nil, List.forIn_cons, List.forIn_nil]
  -- the first iterator
  refine wpAny_bind (wpAny_bind (wpAny_onRaise ?_))
  show wpAny _ _ (Builtin.SmallTypes.nextOf (.ref i1) >>= _) _ _ _
  refine wpAny_bind (N1.item _ _ { s with heap := g1 } k1 x _ (N1.keep _ _ _ h1 (sb_keep s1 D.b1)) hx fun g2 t1 s2 => wpAny_pure ?_)
  have o2 : IsPair g2 TO a b := s2.extBut _ _ nOi1 (s1.extBut _ _ D.a2 hO)
  refine wpAny_bind (wpAny_seqItems o2 rfl (wpAny_bind (wpAny_updateSeq_pair o2 fun g3 o3 s3 => ?_)))
  replace o3 : IsPair g3 TO x b := o3
  refine wpAny_bind (wpAny_letGo (wpAny_pure ?_))
  -- the second one
  refine wpAny_bind (wpAny_bind (wpAny_onRaise ?_))
  show wpAny _ _ (Builtin.SmallTypes.nextOf (.ref i2) >>= _) _ _ _
  have u2 : S2 k2 g3 := N2.keep _ _ _ (N2.keep _ _ _ (N2.keep _ _ _ h2 (sb_keep s1 D.c1)) (sb_keep s2 D.c3)) (sb_keep s3 D.c2)
  refine wpAny_bind (N2.item _ _ { s with heap := g3 } k2 y _ u2 hy fun g4 t2 s4 => wpAny_pure ?_)
  have o4 : IsPair g4 TO x b := s4.extBut _ _ nOi2 o3
  refine wpAny_bind (wpAny_seqItems o4 rfl (wpAny_bind (wpAny_updateSeq_pair o4 fun g5 o5 s5 => ?_)))
  replace o5 : IsPair g5 TO x y := o5
  refine wpAny_bind (wpAny_letGo (wpAny_pure (wpAny_pure ?_)))
  -- the tuple
  refine wpAny_bind (wpAny_seqItems o5 rfl (wpAny_bind (wpAny_newTuple ?_)))
  have size5 : g5.objs.size = s.heap.objs.size := by rw [s5.1, s4.1, s3.1, s2.1, s1.1]
  have z5 : IsZip g5 z TI TO .ellipsis := s5.extBut _ _ D.a2.symm (s4.extBut _ _ ni2z.symm (s3.extBut _ _ D.a2.symm (s2.extBut _ _ ni1z.symm z1)))
  have k5 : ∀ c o, c ≠ z → c ≠ TO → c ≠ i1 → c ≠ i2 → s.heap.get? c = some o → g5.get? c = some o := fun c o n1 n2 n3 n4 e =>
    s5.extBut _ _ n2 (s4.extBut _ _ n4 (s3.extBut _ _ n2 (s2.extBut _ _ n3 (s1.extBut _ _ n1 e))))
  have t15 : S1 (k1 + 1) g5 := N1.keep _ _ _ (N1.keep _ _ _ (N1.keep _ _ _ t1 (sb_keep s3 D.b2)) (sb_keep s4 D.b3)) (sb_keep s5 D.b2)
  have t25 : S2 (k2 + 1) g5 := N2.keep _ _ _ t2 (sb_keep s5 D.c2)
  have zlt := Heap.lt_size z5
  show wpAny _ _ (Builtin.SmallTypes.ownedTupleHandOut (.ref z) (.ref g5.objs.size) >>= _) _ _ _
  refine wpAny_bind ?_
  unfold Builtin.SmallTypes.ownedTupleHandOut
  have z6 : IsZip (g5.push { cls := .type "tuple", data := .seq #[x, y] }) z TI TO .ellipsis := Heap.get?_push_of_some _ z5
  refine wpAny_bind (wpAny_setField_rec z6 (by simp) fun g7 z7 s7 => ?_)
  replace z7 : IsZip g7 z TI TO (rawInt g5.objs.size) := z7
  refine wpAny_setField_rec z7 (by simp) fun g8 z8 s8 => wpAny_pure ⟨_, rfl, ?_⟩
  replace z8 : IsZip g8 z TI TO (rawInt g5.objs.size) := z8
  have up : ∀ c o, c ≠ z → g5.get? c = some o → g8.get? c = some o := fun c o n e => s8.extBut _ _ n (s7.extBut _ _ n (Heap.get?_push_of_some _ e))
  have t8 : IsPair g8 g5.objs.size x y := s8.extBut _ _ (Nat.ne_of_gt zlt) (s7.extBut _ _ (Nat.ne_of_gt zlt) (Heap.get?_push_size _ rfl))
  show Q (.ref g5.objs.size) _
  rw [size5] at z8 t8 ⊢
  exact hQ g8 z8 (up _ _ D.a2 o5) (N1.keep _ _ _ t15 fun c hc o e => up c o (fun q => D.b1 (q ▸ hc)) e) (N2.keep _ _ _ t25 fun c hc o e => up c o (fun q => D.c1 (q ▸ hc)) e) t8 fun c o n1 n2 n3 n4 e => up c o n1 (k5 c o n1 n2 n3 n4 e)
theorem zipG_end {k1 k2 : Nat} {a b : Value} {Q : PySem.Fin → Shared → Prop} (N1 : Nx P w i1 f1 S1 xs) (N2 : Nx P w i2 f2 S2 ys) (D : Apart z TI TO i1 i2 f1 f2) (hh : A.handled = none)
    (hz : IsZip s.heap z TI TO .none) (hI : IsPair s.heap TI (.ref i1) (.ref i2)) (hO : IsPair s.heap TO a b) (h1 : S1 k1 s.heap) (h2 : S2 k2 s.heap) (he : xs[k1]? = none ∨ ys[k2]? = none)
    (hE : ∀ h' e, (∀ c o, c ≠ z → c ≠ TO → c ≠ i1 → c ≠ i2 → s.heap.get? c = some o → h'.get? c = some o) → (∃ o, h'.get? e = some o ∧ o.cls = .type "StopIteration") → E (.ref e) { s with heap := h' }) :
    wpAny (model P w) A (Builtin.«zip.__next__» ⟨[.ref z], []⟩) Q E s := by
  have ni1z : i1 ≠ z := fun q => D.b1 (q ▸ N1.self)
  have ni2z : i2 ≠ z := fun q => D.c1 (q ▸ N2.self)
  have nOi1 : TO ≠ i1 := fun q => D.b2 (q ▸ N1.self)
  show wpAny _ _ (field (.ref z) 2 >>= _) _ _ _
  refine wpAny_bind (wpAny_field hz rfl (x := .bool false) rfl ?_)
  show wpAny _ _ (field (.ref z) 3 >>= _) _ _ _
  refine wpAny_bind (wpAny_field hz rfl (x := .ref TI) rfl (wpAny_bind (wpAny_seqItems hI rfl ?_)))
  show wpAny _ _ (Builtin.SmallTypes.ownedTupleIsFree (.ref z) >>= _) _ _ _
  refine wpAny_bind ?_
  unfold Builtin.SmallTypes.ownedTupleIsFree
  refine wpAny_bind (wpAny_field hz rfl (x := .none) rfl (wpAny_pure ?_))
  simp only [if_true]
  refine wpAny_bind (wpAny_rule (wpAny_bind (wpAny_field hz rfl (x := .ref TO) rfl (wpAny_bind (wpAny_setField_rec hz (by simp) fun g1 z1 s1 => ?_)))))
  replace z1 : IsZip g1 z TI TO .ellipsis := z1
  refine wpAny_bind ?_
  simp only [List.zipIdx_cons, List.zipIdx_nil, List.forIn_cons, List.forIn_nil]
  refine wpAny_bind (wpAny_bind (wpAny_onRaise ?_))
  show wpAny _ _ (Builtin.SmallTypes.nextOf (.ref i1) >>= _) _ _ _
  have v1 : S1 k1 g1 := N1.keep _ _ _ h1 (sb_keep s1 D.b1)
  have fin : ∀ (g : Heap) (e : Addr) (kk : ∀ c o, c ≠ z → c ≠ TO → c ≠ i1 → c ≠ i2 → s.heap.get? c = some o → g.get? c = some o) (zz : IsZip g z TI TO .ellipsis) (ee : ∃ o, g.get? e = some o ∧ o.cls = .type "StopIteration"),
      wpAny (model P w) A (setField (.ref z) 0 .none) (fun _ => E (.ref e)) E { s with heap := g } := fun g e kk zz ee => by
    obtain ⟨oe, h1, h2⟩ := ee
    have nz : e ≠ z := fun q => by
      rw [q, zz] at h1
      cases h1
      have h2 : Value.type "zip" = Value.type "StopIteration" := h2
      exact absurd h2 (by decide)
    exact wpAny_setField_rec zz (by simp) fun g' _ sb => hE g' e (fun c o n1 n2 n3 n4 q => sb.extBut _ _ n1 (kk c o n1 n2 n3 n4 q)) ⟨oe, sb.extBut _ _ nz h1, h2⟩
  cases hx : xs[k1]? with
  | none => exact wpAny_bind (N1.done _ _ { s with heap := g1 } k1 _ hh v1 hx fun g2 e s2 ee => fin g2 e (fun c o n1 n2 n3 n4 q => s2 _ _ n3 (s1.extBut _ _ n1 q)) (s2 _ _ ni1z.symm z1) ee)
  | some x =>
    have hy : ys[k2]? = none := by
      rcases he with q | q
      · rw [hx] at q; cases q
      · exact q
    refine wpAny_bind (N1.item _ _ { s with heap := g1 } k1 x _ v1 hx fun g2 t1 s2 => wpAny_pure ?_)
    have o2 : IsPair g2 TO a b := s2.extBut _ _ nOi1 (s1.extBut _ _ D.a2 hO)
    refine wpAny_bind (wpAny_seqItems o2 rfl (wpAny_bind (wpAny_updateSeq_pair o2 fun g3 o3 s3 => ?_)))
    refine wpAny_bind (wpAny_letGo (wpAny_pure (wpAny_bind (wpAny_bind (wpAny_onRaise ?_)))))
    show wpAny _ _ (Builtin.SmallTypes.nextOf (.ref i2) >>= _) _ _ _
    have u2 : S2 k2 g3 := N2.keep _ _ _ (N2.keep _ _ _ (N2.keep _ _ _ h2 (sb_keep s1 D.c1)) (sb_keep s2 D.c3)) (sb_keep s3 D.c2)
    have z3 : IsZip g3 z TI TO .ellipsis := s3.extBut _ _ D.a2.symm (s2.extBut _ _ ni1z.symm z1)
    exact wpAny_bind (N2.done _ _ { s with heap := g3 } k2 _ hh u2 hy fun g4 e s4 ee => fin g4 e (fun c o n1 n2 n3 n4 q => s4 _ _ n4 (s3.extBut _ _ n2 (s2.extBut _ _ n3 (s1.extBut _ _ n1 q)))) (s4 _ _ ni2z.symm z3) ee)
theorem nextZ_item {k1 k2 : Nat} {x y a b : Value} {Q : Option Value → Shared → Prop} (N1 : Nx P w i1 f1 S1 xs) (N2 : Nx P w i2 f2 S2 ys) (D : Apart z TI TO i1 i2 f1 f2)
    (hz : IsZip s.heap z TI TO .none) (hI : IsPair s.heap TI (.ref i1) (.ref i2)) (hO : IsPair s.heap TO a b) (h1 : S1 k1 s.heap) (h2 : S2 k2 s.heap) (hx : xs[k1]? = some x) (hy : ys[k2]? = some y)
    (hQ : ∀ h', IsZip h' z TI TO (rawInt s.heap.objs.size) → IsPair h' TO x y → S1 (k1 + 1) h' → S2 (k2 + 1) h' → IsPair h' s.heap.objs.size x y →
      (∀ c o, c ≠ z → c ≠ TO → c ≠ i1 → c ≠ i2 → s.heap.get? c = some o → h'.get? c = some o) → Q (some (.ref s.heap.objs.size)) { s with heap := h' }) : wpAny (model P w) A (pyNext (.ref z)) Q E s := by
  have T : s.TypeIs (.ref z) "zip" := ⟨_, hz, rfl⟩
  unfold pyNext
  refine wpAny_bind (wpAny_attempt (wpAny_callSpecial?_slot (name := Str.ofString "__next__") T F.slot_zip_next ?_))
  exact wpAny_call_entry F.slot_zip_next T F.entry_zip_next (zipG_item N1 N2 D hz hI hO h1 h2 hx hy fun h' a1 a2 a3 a4 a5 a6 => wpAny_pure (hQ h' a1 a2 a3 a4 a5 a6)) (F.args_zip_next_1 _)
theorem nextZ_end {k1 k2 : Nat} {a b : Value} {Q : Option Value → Shared → Prop} (N1 : Nx P w i1 f1 S1 xs) (N2 : Nx P w i2 f2 S2 ys) (D : Apart z TI TO i1 i2 f1 f2) (hh : A.handled = none)
    (hz : IsZip s.heap z TI TO .none) (hI : IsPair s.heap TI (.ref i1) (.ref i2)) (hO : IsPair s.heap TO a b) (h1 : S1 k1 s.heap) (h2 : S2 k2 s.heap) (he : xs[k1]? = none ∨ ys[k2]? = none)
    (hQ : ∀ h', (∀ c o, c ≠ z → c ≠ TO → c ≠ i1 → c ≠ i2 → s.heap.get? c = some o → h'.get? c = some o) → Q none { s with heap := h' }) : wpAny (model P w) A (pyNext (.ref z)) Q E s := by
  have T : s.TypeIs (.ref z) "zip" := ⟨_, hz, rfl⟩
  unfold pyNext
  refine wpAny_bind (wpAny_attempt (wpAny_callSpecial?_slot (name := Str.ofString "__next__") T F.slot_zip_next ?_))
  refine wpAny_call_entry F.slot_zip_next T F.entry_zip_next (zipG_end N1 N2 D hh hz hI hO h1 h2 he fun h' e kk ⟨o, ho, hc⟩ => ?_) (F.args_zip_next_1 _)
  exact wpAny_bind (wpAny_isInstance (T := "StopIteration") (b := true) ⟨o, ho, hc⟩ isSubtype_stop (wpAny_pure (hQ _ kk)))
end
end Q
end

section
set_option Elab.async false
set_option linter.all false
set_option maxRecDepth 100000
/-! CoreZ3: zip as what is walked. -/
namespace Q
open PySem PySem.Spec PyProof.Rows PySem.Builtin
/-- a frozen list (true) or tuple (false) -/
def SrcAt (b : Bool) (h : Heap) (p : Addr) (us : List Value) : Prop := match b with
  | true => LstAt h p us
  | false => TupAt h p us
def ItAt (b : Bool) (h : Heap) (it p : Addr) (k : Nat) : Prop := match b with
  | true => h.IsListIter it p k
  | false => h.IsTupleIter it p k
def NxS (b : Bool) (it p : Addr) (us : List Value) : Nat → Heap → Prop := fun k h => ItAt b h it p k ∧ (match b with | true => h.IsList p us.toArray | false => h.IsTuple p us.toArray) ∧ it ≠ p
theorem nx_src {P : Program} {w : World} {b : Bool} {it p : Addr} {us : List Value} : Nx P w it [it, p] (NxS b it p us) us.toArray := by
  cases b with
  | true => exact nx_list
  | false => exact nx_tuple
theorem SrcAt.nx {b : Bool} {h : Heap} {it p : Addr} {us : List Value} {k : Nat} (s : SrcAt b h p us) (i : ItAt b h it p k) (n : it ≠ p) : NxS b it p us k h := by
  cases b with
  | true => exact ⟨i, isList_of s, n⟩
  | false => exact ⟨i, s.2.1, n⟩
theorem SrcAt.at {b : Bool} {h h' : Heap} {p : Addr} {us : List Value} (s : SrcAt b h p us) (k : ∀ o, h.get? p = some o → h'.get? p = some o) : SrcAt b h' p us := by
  cases b with
  | true => exact LstAt.mono s k
  | false => exact TupAt.mono s k
theorem ItAt.at {b : Bool} {h h' : Heap} {it p : Addr} {n : Nat} (s : ItAt b h it p n) (k : ∀ o, h.get? it = some o → h'.get? it = some o) : ItAt b h' it p n := by
  cases b with
  | true => exact Heap.IsListIter.at s k
  | false => exact Heap.IsTupleIter.at s k
theorem ItAt.obj {b : Bool} {h : Heap} {it p : Addr} {n : Nat} (s : ItAt b h it p n) : ∃ o, h.get? it = some o ∧ o.cls ≠ .type "list" := by
  cases b with
  | true =>
    obtain ⟨o, e, c, _⟩ := s
    exact ⟨o, e, by rw [c]; decide⟩
  | false =>
    obtain ⟨o, e, c, _⟩ := s
    exact ⟨o, e, by rw [c]; decide⟩
def TZ (z TI TO i1 i2 : Addr) (b1 : Bool) (p1 : Addr) (us1 : List Value) (xs : List AV) (b2 : Bool) (p2 : Addr) (us2 : List Value) (ys : List AV) (gc : GC) : Nat → Gh → Heap → Prop := fun i g h =>
  IsZip h z TI TO .none ∧ IsPair h TI (.ref i1) (.ref i2) ∧ (∃ a b, IsPair h TO a b) ∧ ItAt b1 h i1 p1 i ∧ ItAt b2 h i2 p2 i ∧ g.fz p1 ∧ g.fz p2 ∧ SrcAt b1 h p1 us1 ∧ SrcAt b2 h p2 us2 ∧ RepL gc g h xs us1 ∧ RepL gc g h ys us2
theorem zipL_get : ∀ (xs ys : List AV) (i : Nat) (v : AV), (zipL xs ys)[i]? = some v → ∃ x y, xs[i]? = some x ∧ ys[i]? = some y ∧ v = .tup [x, y]
  | [], ys, i, v, h => by simp [zipL] at h
  | x :: xs, [], i, v, h => by simp [zipL] at h
  | x :: xs, y :: ys, 0, v, h => by
    rw [zipL, List.getElem?_cons_zero] at h
    exact ⟨x, y, rfl, rfl, (Option.some.inj h).symm⟩
  | x :: xs, y :: ys, i + 1, v, h => by
    rw [zipL, List.getElem?_cons_succ] at h
    obtain ⟨a, b, h1, h2, h3⟩ := zipL_get xs ys i v h
    exact ⟨a, b, by rw [List.getElem?_cons_succ]; exact h1, by rw [List.getElem?_cons_succ]; exact h2, h3⟩
theorem zipL_end : ∀ (xs ys : List AV), xs.length = (zipL xs ys).length ∨ ys.length = (zipL xs ys).length
  | [], ys => .inl (by simp [zipL])
  | x :: xs, [] => .inr (by simp [zipL])
  | x :: xs, y :: ys => by
    rcases zipL_end xs ys with h | h
    · exact .inl (by simp [zipL, h])
    · exact .inr (by simp [zipL, h])
theorem iter_zip {gc : GC} {elts : List Expr} {kk : Nat} {tpos : Pos} {z TI TO i1 i2 p1 p2 : Addr} {b1 b2 : Bool} {us1 us2 : List Value} {xs ys : List AV} (D : Apart z TI TO i1 i2 [i1, p1] [i2, p2]) (n1 : i1 ≠ p1) (n2 : i2 ≠ p2) :
    Iter gc (.Tuple elts kk tpos) (zipL xs ys) z [z, TI, TO, i1, i2] (TZ z TI TO i1 i2 b1 p1 us1 xs b2 p2 us2 ys gc) where
  obj i g h t b hb := by
    obtain ⟨hz, hI, ⟨x, y, hO⟩, h1, h2, _⟩ := t
    have hb : b = z ∨ b = TI ∨ b = TO ∨ b = i1 ∨ b = i2 := by simpa using hb
    rcases hb with e | e | e | e | e <;> rw [e]
    · exact ⟨_, hz, show Value.type "zip" ≠ .type "list" by decide⟩
    · exact ⟨_, hI, show Value.type "tuple" ≠ .type "list" by decide⟩
    · exact ⟨_, hO, show Value.type "tuple" ≠ .type "list" by decide⟩
    · exact h1.obj
    · exact h2.obj
  keep i g g' h h' t m k := by
    obtain ⟨hz, hI, ⟨x, y, hO⟩, h1, h2, f1, f2, s1, s2, q1, q2⟩ := t
    exact ⟨k z (by simp) _ hz, k TI (by simp) _ hI, ⟨x, y, k TO (by simp) _ hO⟩, h1.at fun o e => k i1 (by simp) o e, h2.at fun o e => k i2 (by simp) o e, m.fz _ f1, m.fz _ f2, s1.at fun o e => m.obj p1 o f1 e, s2.at fun o e => m.obj p2 o f2 e, RepL.mono m q1, RepL.mono m q2⟩
  item X hX i v g st s Q E hx r t hp hq := by
    obtain ⟨hz, hI, ⟨x0, y0, hO⟩, h1, h2, f1, f2, s1, s2, q1, q2⟩ := t
    subst hX
    obtain ⟨x, y, hx1, hy1, rfl⟩ := zipL_get xs ys i v hx
    obtain ⟨u1, hu1, r1⟩ := q1.get hx1
    obtain ⟨u2, hu2, r2⟩ := q2.get hy1
    refine nextZ_item nx_src nx_src D hz hI hO (s1.nx h1 n1) (s2.nx h2 n2) (x := u1) (y := u2) (by simpa using hu1) (by simpa using hu2) fun h3 z3 o3 t1 t2 t3 k3 => ⟨_, rfl, ?_⟩
    refine wpAny_letOwnedTupleGo_zip (s := { s with heap := h3 }) z3 fun h4 z4 sb => ?_
    have k4 : ∀ b o, b ∉ [z, TI, TO, i1, i2] → s.heap.get? b = some o → h4.get? b = some o := fun b o n e => by
      simp only [List.mem_cons, List.not_mem_nil, or_false, not_or] at n
      exact (sb.2 b n.1).trans (k3 b o n.1 n.2.2.1 n.2.2.2.1 n.2.2.2.2 e)
    have nf : ∀ b ∈ [z, TI, TO, i1, i2], ¬ g.fz b := fun b hb => let ⟨⟨o, pp⟩, _⟩ := hp b hb; pp.fz
    have m0 : GMono g g s.heap h4 := ⟨fun b o fb e => k4 b o (fun q => nf b q fb) e, fun _ e => e, ⟨[], by simp⟩, fun _ _ e => e⟩
    have nz : s.heap.objs.size ≠ z := fun q => absurd (Heap.lt_size hz) (by rw [← q]; exact Nat.lt_irrefl _)
    have ht4 : h4.get? s.heap.objs.size = some { cls := .type "tuple", data := .seq #[u1, u2] } := (sb.2 _ nz).trans t3
    obtain ⟨g2, r3, e3, q3, m3⟩ := pair_turn (k := s.toks) (x := x) (y := y) r hp k4 (Nat.le_refl _) ht4 (Rep.mono m0 r1) (Rep.mono m0 r2)
    have mt := m0.trans m3
    have nI1 : TI ≠ i1 := fun q => D.b4 (by simp [q])
    have nI2 : TI ≠ i2 := fun q => D.c4 (by simp [q])
    have hI4 : IsPair h4 TI (.ref i1) (.ref i2) := (sb.2 _ D.a1).trans (k3 _ _ D.a1 D.a3 nI1 nI2 hI)
    have ni1 : i1 ≠ z := fun q => D.b1 (by simp [q])
    have ni2 : i2 ≠ z := fun q => D.c1 (by simp [q])
    exact hq g2 _ _ r3 e3 q3 ⟨z4, hI4, ⟨u1, u2, (sb.2 _ D.a2).trans o3⟩, ItAt.at t1.1 fun o e => (sb.2 _ ni1).trans e, ItAt.at t2.1 fun o e => (sb.2 _ ni2).trans e, mt.fz _ f1, mt.fz _ f2, s1.at fun o e => mt.obj p1 o f1 e, s2.at fun o e => mt.obj p2 o f2 e, RepL.mono mt q1, RepL.mono mt q2⟩
  done X hX g st s Q E r t hp hq := by
    obtain ⟨hz, hI, ⟨x0, y0, hO⟩, h1, h2, f1, f2, s1, s2, q1, q2⟩ := t
    subst hX
    have he : us1.toArray[(zipL xs ys).length]? = none ∨ us2.toArray[(zipL xs ys).length]? = none := by
      have l1 := q1.length
      have l2 := q2.length
      rcases zipL_end xs ys with e | e
      · exact .inl (by simp; omega)
      · exact .inr (by simp; omega)
    refine nextZ_end nx_src nx_src D r.ok.hd hz hI hO (s1.nx h1 n1) (s2.nx h2 n2) he fun h' kk => ?_
    have kp : ∀ b o, b ∉ [z, TI, TO, i1, i2] → s.heap.get? b = some o → h'.get? b = some o := fun b o n e => by
      simp only [List.mem_cons, List.not_mem_nil, or_false, not_or] at n
      exact kk b o n.1 n.2.2.1 n.2.2.2.1 n.2.2.2.2 e
    have r1 := r.keepBut (fp := [z, TI, TO, i1, i2]) (h' := h') (k := s.toks) (fun b hb => (hp b hb).nb r) kp (Nat.le_refl _)
    exact ⟨rfl, hq _ r1 ⟨rfl, kp, fun _ h => h, fun _ h => .inl h, rfl, fun _ _ e => e, Nat.le_refl _⟩⟩
  self A i g s Q E t h := wpAny_pyIter_zip t.1 h
end Q
end

section
set_option Elab.async false
set_option linter.all false
set_option maxRecDepth 100000
/-! CoreZ4: an own __iter__ that gives iter(self.f); zip over it. -/
namespace Q
open PySem PySem.Spec PyProof.Rows PySem.Builtin
/-- the end of a def's run -/
theorem ce_of {gc : GC} {k : Nat} {f : Addr} {qual : Str} {scope : Scope} {cdv : Value} {N : List Str} {A : Around} {outer : List Env} {s s1 s' : Shared} {g g' : Gh} {st' : S}
    (f1 : StE (fxOf gc N qual scope f cdv A outer s.heap k) g s g s1) (f' : StE (fxOf gc N qual scope f cdv A outer s.heap k) g s1 g' s') (r' : SR (fxOf gc N qual scope f cdv A outer s.heap k) g' st' s') : CallEnd gc outer g s g' st'.hp s' := by
  have ft := f1.trans f'
  have inFr : ∀ a, (∃ o, s.heap.get? a = some o) → a ∉ L2.frs outer → a ∉ L2.frs (fxOf gc N qual scope f cdv A outer s.heap k).stack := fun a ha hn hL => by
    have hL : a ∈ L2.frs (envOfC qual scope s.heap.objs.size f cdv :: outer) := hL
    rw [frs_cons rfl] at hL
    rcases List.mem_cons.mp hL with e | e
    · subst e
      exact some_ne ha (Heap.get?_none_of_le (Nat.le_refl _))
    · exact hn e
  exact ⟨ft.os, r'.bare, ⟨fun a o e nm nf => ft.keep a o ⟨o, e⟩ e nm (inFr a ⟨o, e⟩ nf), fun a o e nm => ft.slot a o ⟨o, e⟩ e nm, ft.there⟩, ft.mono.fz, ft.fzNew, ft.th, ft.mono.tk, ft.toks, r'.gh⟩
def FnI (gc : GC) (k : Nat) (fm : Addr) (c f : String) : Prop := ∀ (A : Around) (outer : List Env) (s : Shared) (g : Gh) (hp : List AV) (ns : List String) (vs xs : List AV) (u : Value) (R : Result → Shared → Prop), L2.Room k A → CallOk gc A outer g hp s → Rep gc g s.heap (.ins c ns vs) u → insGet f ns vs = some (.lst xs) →
  (∀ g' s' it p us, CallEnd gc outer g s g' hp s' → s.heap.get? it = none → ¬ g'.fz it → ¬ g'.mu it → s'.heap.IsListIter it p 0 → g'.fz p → LstAt s'.heap p us → RepL gc g' s'.heap xs us → R (.ok (.ret (.ref it))) s') → codeAny (model gc.P gc.w) A (.call (.ref fm) ⟨[u], []⟩) R s
theorem boot_iter : bootBuiltins ("iter" : Str) = some (.builtin "iter") := by decide +kernel
theorem fni_of {gc : GC} {k : Nat} {fm : Addr} {c f : String} {name qual self : Str} {params : Arguments} {scope : Scope} {dV kV doc pm cdv ct oc : Value} {an od : Option Addr} {osl : Array (Option Value)} {p1 p2 p3 p4 p5 : Pos}
    (lk : gc.K.lookup fm = some ⟨oc, od, .func (PySem.W.fnOf name qual params [.Return (some (.Call (.Name "iter" p1) [.Attribute (.Name self p2) (Str.ofString f) p3] [] p4)) p5] scope dV kV doc pm an cdv ct), osl⟩) (hcd : PySem.W.codeIn gc.K cdv qual = true) (Sc : L2.FnScope [self] [self] scope)
    (hb : ∀ us : List Value, us.length = 1 → bindArgs (PySem.W.fnOf name qual params [.Return (some (.Call (.Name "iter" p1) [.Attribute (.Name self p2) (Str.ofString f) p3] [] p4)) p5] scope dV kV doc pm an cdv ct) ⟨us, []⟩ = pure (([self] : List Str).zip us))
    (hd : (self == ("__debug__" : Str)) = false) (hcl : (self == ("__classdict__" : Str)) = false) (hgi : scope.names.lookup ("iter" : Str) = some .globalImplicit) (hmi : gc.mg "iter" = none) : FnI gc (k + 1) fm c f := by
  intro A outer s g hp ns vs xs u R hr e0 q hf hR
  refine fn_open (k := k) lk hcd Sc hb hr e0 (RepL.one q) rfl fun s1 E r1 f1 => ?_
  let X : Fx := fxOf gc [self] qual scope fm cdv A outer s.heap k
  have hvis : L2.Vis X.env.scope self := (Sc.par self (by simp)).elim .inl fun z => .inr (.inl z)
  have ha : ESd X C0 (.attr (.v 0) f []) (.Attribute (.Name self p2) (Str.ofString f) p3) := es_attr (es_var rfl hvis hd hcl) rfl fun c hc => by cases hc
  refine wpAny_execs_cons (wpAny_Return_some (wpAny_Call_Name_kw (ld_blt (X := X) r1 hgi hmi boot_iter ?_ (by decide) (by decide))))
  have hs : noStar (.Attribute (.Name self p2) (Str.ofString f) p3) = true := rfl
  refine PyProof.Rows.callWith_builtin1 ?_ (star_cons hs) rfl
  rw [star_cons hs]
  refine Calls.spliced_cons (ha.run g _ s1 _ _ r1 ?_)
  have e : ev C0 (.attr (.v 0) f []) (startS [self].length [.ins c ns vs] hp) = .ok (.lst xs, .fz) (startS [self].length [.ins c ns vs] hp) := by
    rw [ev, ev]
    simp [startS, S.get, hf]
  rw [e]
  intro g2 s2 w r2 f2 t2
  refine Calls.spliced_nil ?_
  have t2 : Rep gc g2 s2.heap (.lst xs) w := t2
  simp only [Rep] at t2
  obtain ⟨p, us, rfl, hfz, l, ql⟩ := t2
  refine GNX.call_iter (isList_of l) ?_
  obtain ⟨r3, f3, hn, pn⟩ := r2.newIt (o := { cls := .type "list_iterator", data := .fields #[.ref p, .int 0 0] }) (k := s2.toks) (by show Value.type _ ≠ .type "list"; decide) rfl (Nat.le_refl _)
  have m3 := f3.mono r2
  have ce := ce_of f1 ((f2.trans f3).toSt r1) r3
  obtain ⟨⟨o, pp⟩, h0⟩ := pn
  exact hR g2 _ s2.heap.objs.size p us ce h0 pp.fz pp.mu ⟨_, Heap.get?_push_size _ rfl, rfl, rfl⟩ hfz (l.mono fun o z => m3.obj p o hfz z) (RepL.mono m3 ql)

/-- iter(o) of an instance -/
theorem iter_ins {M : Model} {A : Around} {E : Value → Shared → Prop} {s : Shared} {K : PySem.W.Frag} {x C f : Addr} {ox : Obj} {od : Option Obj} {Q : Value → Shared → Prop} (X : K.In s.heap) (I : PySem.W.InstAt s.heap x ox C od)
    (hs : PySem.W.findIn K (.ref C) "__iter__" = some (some (.ref f))) (hf : PySem.W.isFn K (.ref f) = true) (h : wpAny M A (call (.ref f) [.ref x]) (fun v s' => ∃ it l k, v = .ref it ∧ s'.heap.IsListIter it l k ∧ Q (.ref it) s') E s) : wpAny M A (pyIter (.ref x)) Q E s := by
  have look := PySem.W.looks_findIn (M := M) X hs
  have typ := PySem.W.InstAt.type (M := M) I
  have bnd := PySem.W.bind_fn (M := M) X (.ref x) (beq_iff_eq.mp hf)
  let R : Option Value → Shared → Prop := fun r s' => ∃ it l k, r = some (.ref it) ∧ s'.heap.IsListIter it l k ∧ Q (.ref it) s'
  have run : wpAny M A (call (.ref f) [.ref x] >>= fun v => pure (some v)) R E s := wpAny_bind (wpAny_mono h (fun v s' ⟨it, l, k, e, q1, q2⟩ => wpAny_pure ⟨it, l, k, by rw [e], q1, q2⟩) fun _ _ z => z)
  have one : ∀ no : Sem Value, wpAny M A (callSpecialIfBoundUnlessNone? (.ref x) "__iter__" no) R E s := fun no => by
    have tail : wpAny M A (if (Value.ref f == Value.none) = true then (no >>= fun v => pure (some v)) else (call (.ref f) [.ref x] >>= fun v => pure (some v))) R E s := by
      rw [if_neg (by simp)]
      exact run
    simp only [callSpecialIfBoundUnlessNone?, bindSpecialIfBound?]
    refine wpAny_holding (wpAny_bind (wpAny_bind (wpAny_bind (typ.here (look.here (wpAny_bind (wpAny_askSetting (wpAny_ite ?_))))))))
    split
    · exact wpAny_bind (bnd.here (wpAny_pure (by exact tail)))
    · exact wpAny_tryCatch (wpAny_bind (bnd.here (wpAny_pure (by exact tail))))
  unfold pyIter
  refine wpAny_bind (wpAny_bind (typ.here (look.here ?_)))
  show wpAny M A (callSpecialIfBoundUnlessNone? (.ref x) "__iter__" _ >>= _) Q E s
  refine wpAny_bind (wpAny_mono (one _) (fun r s' ⟨it, l, k, e, q1, q2⟩ => ?_) fun _ _ z => z)
  subst e
  exact wpAny_bind (wpAny_specialOf q1.typeIs slot_listiter_next.lookup (wpAny_pure q2))
def IterQ (gc : GC) (k : Nat) (c f : String) : Prop := ∀ C, gc.cls c = some C → ∃ (fm : Addr) (j : Nat), j + 2 ≤ k ∧ PySem.W.findIn gc.K (.ref C) "__iter__" = some (some (.ref fm)) ∧ PySem.W.isFn gc.K (.ref fm) = true ∧ FnI gc j fm c f
set_option maxHeartbeats 2000000 in
theorem zip_new {prog : Program} {w : World} (u1 u2 : Value) :
    MeetsIn prog w (Builtin.«zip.__new__» ⟨[.type "zip", u1, u2], []⟩) (fun A R s => wpAny (model prog w) A.in1 (pyIter u1) (fun i1 s1 => wpAny (model prog w) A.in1 (pyIter u2) (fun i2 s2 =>
      R (.ok (.ret (.ref (s2.heap.objs.size + 2)))) { s2 with heap := ((s2.heap.push { cls := .type "tuple", data := .seq #[i1, i2] }).push { cls := .type "tuple", data := .seq #[.none, .none] }).push { cls := .type "zip", data := .fields #[.none, .bool false, .bool false, .ref s2.heap.objs.size, .ref (s2.heap.objs.size + 1)] } })
      (fun e s' => R (.error e) s') s1) (fun e s' => R (.error e) s') s) :=
  .of_wp fun A R s h => by
    have hsub := PySem.sub_zip
    unfold Builtin.«zip.__new__» Builtin.SmallTypes.iterAll
    generalize hPI : pyIter = PI at h ⊢
    obtain ⟨hp, g, d, tk, os⟩ := s
    wp_walk
    refine wpAny_mono h (fun i1 s1 k => ?_) (fun _ _ z => z)
    obtain ⟨hp, g, d, tk, os⟩ := s1
    wp_walk
    refine wpAny_mono k (fun i2 s2 k => ?_) (fun _ _ z => z)
    obtain ⟨hp, g, d, tk, os⟩ := s2
    wp_walk
    refine ⟨_, rfl, ?_⟩
    rw [Heap.size_push, Heap.size_push]
    exact k

section
variable {X : Fx} {C : Oracle} {g g' : Gh} {st st' : S} {s s' : Shared} {u w : Value} {E : Value → Shared → Prop}
variable {a b d : IE} {ea eb ed : Expr} {p pos tpos : Pos} {elts : List Expr} {kk : Nat}
theorem boot_zip2 : bootBuiltins ("zip" : Str) = some (.type "zip") := by decide +kernel
/-- the objects of a new zip -/
theorem zip_made {b1 b2 : Bool} {i1 i2 p1 p2 : Addr} {us1 us2 : List Value} {xs ys : List AV} {Q : Value → Shared → Prop} {g0 : Gh} {st0 : S} {s0 : Shared} (f0 : FrE X g0 st0 s0 g st s) (r : SR X g st s) (q1 : Pn X g s i1) (q2 : Pn X g s i2) (n0 : s0.heap.get? i1 = none ∧ s0.heap.get? i2 = none) (hne : i1 ≠ i2) (t1 : ItAt b1 s.heap i1 p1 0) (t2 : ItAt b2 s.heap i2 p2 0)
    (f1 : g.fz p1) (f2 : g.fz p2) (s1 : SrcAt b1 s.heap p1 us1) (s2 : SrcAt b2 s.heap p2 us2) (r1 : RepL X.gc g s.heap xs us1) (r2 : RepL X.gc g s.heap ys us2)
    (h : ∀ g' s' it fp T, SR X g' st s' → FrE X g0 st0 s0 g' st s' → Iter X.gc (.Tuple elts kk tpos) (zipL xs ys) it fp T → T 0 g' s'.heap → (∀ b ∈ fp, s0.heap.get? b = none ∧ Pn X g' s' b) → (∃ TI TO, IsZip s'.heap it TI TO .none) → Q (.ref it) s') :
    Q (.ref (s.heap.objs.size + 2)) { s with heap := ((s.heap.push { cls := .type "tuple", data := .seq #[.ref i1, .ref i2] }).push { cls := .type "tuple", data := .seq #[.none, .none] }).push { cls := .type "zip", data := .fields #[.none, .bool false, .bool false, .ref s.heap.objs.size, .ref (s.heap.objs.size + 1)] } } := by
  have z1 : (s.heap.push { cls := .type "tuple", data := .seq #[.ref i1, .ref i2] }).objs.size = s.heap.objs.size + 1 := Heap.size_push ..
  have z2 : ((s.heap.push { cls := .type "tuple", data := .seq #[.ref i1, .ref i2] }).push { cls := .type "tuple", data := .seq #[.none, .none] }).objs.size = s.heap.objs.size + 2 := by rw [Heap.size_push, z1]
  have e1 : (((s.heap.push { cls := .type "tuple", data := .seq #[.ref i1, .ref i2] }).push { cls := .type "tuple", data := .seq #[.none, .none] }).push { cls := .type "zip", data := .fields #[.none, .bool false, .bool false, .ref s.heap.objs.size, .ref (s.heap.objs.size + 1)] }).get? s.heap.objs.size = some { cls := .type "tuple", data := .seq #[.ref i1, .ref i2] } :=
    Heap.get?_push_of_some _ (Heap.get?_push_of_some _ (Heap.get?_push_size _ rfl))
  have e2 : (((s.heap.push { cls := .type "tuple", data := .seq #[.ref i1, .ref i2] }).push { cls := .type "tuple", data := .seq #[.none, .none] }).push { cls := .type "zip", data := .fields #[.none, .bool false, .bool false, .ref s.heap.objs.size, .ref (s.heap.objs.size + 1)] }).get? (s.heap.objs.size + 1) = some { cls := .type "tuple", data := .seq #[.none, .none] } := by
    rw [← z1]; exact Heap.get?_push_of_some _ (Heap.get?_push_size _ rfl)
  have e3 : (((s.heap.push { cls := .type "tuple", data := .seq #[.ref i1, .ref i2] }).push { cls := .type "tuple", data := .seq #[.none, .none] }).push { cls := .type "zip", data := .fields #[.none, .bool false, .bool false, .ref s.heap.objs.size, .ref (s.heap.objs.size + 1)] }).get? (s.heap.objs.size + 2) = some { cls := .type "zip", data := .fields #[.none, .bool false, .bool false, .ref s.heap.objs.size, .ref (s.heap.objs.size + 1)] } := by
    rw [← z2]; exact Heap.get?_push_size _ rfl
  have up : ∀ b o, s.heap.get? b = some o → (((s.heap.push { cls := .type "tuple", data := .seq #[.ref i1, .ref i2] }).push { cls := .type "tuple", data := .seq #[.none, .none] }).push { cls := .type "zip", data := .fields #[.none, .bool false, .bool false, .ref s.heap.objs.size, .ref (s.heap.objs.size + 1)] }).get? b = some o := fun b o e => Heap.get?_push_of_some _ (Heap.get?_push_of_some _ (Heap.get?_push_of_some _ e))
  generalize ((s.heap.push { cls := .type "tuple", data := .seq #[.ref i1, .ref i2] }).push { cls := .type "tuple", data := .seq #[.none, .none] }).push { cls := .type "zip", data := .fields #[.none, .bool false, .bool false, .ref s.heap.objs.size, .ref (s.heap.objs.size + 1)] } = h5 at e1 e2 e3 up ⊢
  obtain ⟨r', f'⟩ := r.ext (h' := h5) (k := s.toks) up (Nat.le_refl _)
  have m := f'.mono r
  have none_ : ∀ k : Nat, s.heap.get? (s.heap.objs.size + k) = none := fun k => Heap.get?_none_of_le (Nat.le_add_right _ _)
  have lt : ∀ {b : Addr}, (∃ o, s.heap.get? b = some o) → ∀ k : Nat, b ≠ s.heap.objs.size + k := fun {b} hb k q => some_ne hb (q ▸ none_ k)
  have i1in : ∃ o, s.heap.get? i1 = some o := let ⟨⟨o, q⟩, _⟩ := q1; ⟨o, q.obj⟩
  have i2in : ∃ o, s.heap.get? i2 = some o := let ⟨⟨o, q⟩, _⟩ := q2; ⟨o, q.obj⟩
  have p1in := r.gh.fzIn p1 f1
  have p2in := r.gh.fzIn p2 f2
  have i1nf : ¬ g.fz i1 := let ⟨⟨o, q⟩, _⟩ := q1; q.fz
  have i2nf : ¬ g.fz i2 := let ⟨⟨o, q⟩, _⟩ := q2; q.fz
  have n11 : i1 ≠ p1 := fun q => i1nf (q ▸ f1)
  have n22 : i2 ≠ p2 := fun q => i2nf (q ▸ f2)
  have n12 : i1 ≠ p2 := fun q => i1nf (q ▸ f2)
  have n21 : i2 ≠ p1 := fun q => i2nf (q ▸ f1)
  have D : Apart (s.heap.objs.size + 2) s.heap.objs.size (s.heap.objs.size + 1) i1 i2 [i1, p1] [i2, p2] := by
    have a := lt i1in; have b := lt i2in; have c := lt p1in; have d := lt p2in
    refine ⟨Nat.ne_of_lt (Nat.lt_add_of_pos_right (by decide)), Nat.ne_of_lt (Nat.lt_succ_self _), Nat.ne_of_lt (Nat.lt_succ_self _), ?_, ?_, ?_, ?_, ?_, ?_, ?_, ?_⟩
    all_goals simp only [List.mem_cons, List.not_mem_nil, or_false, not_or]
    · exact ⟨(a 2).symm, (c 2).symm⟩
    · exact ⟨(a 1).symm, (c 1).symm⟩
    · exact ⟨hne.symm, n21⟩
    · exact ⟨(a 0).symm, (c 0).symm⟩
    · exact ⟨(b 2).symm, (d 2).symm⟩
    · exact ⟨(b 1).symm, (d 1).symm⟩
    · exact ⟨hne, n12⟩
    · exact ⟨(b 0).symm, (d 0).symm⟩
  refine h g { s with heap := h5 } _ [s.heap.objs.size + 2, s.heap.objs.size, s.heap.objs.size + 1, i1, i2] _ r' (f0.trans f') (iter_zip D n11 n22) ⟨e3, e1, ⟨_, _, e2⟩, t1.at fun o e => up i1 o e, t2.at fun o e => up i2 o e, f1, f2, s1.at fun o e => up p1 o e, s2.at fun o e => up p2 o e, RepL.mono m r1, RepL.mono m r2⟩ (fun c hc => ?_) ⟨_, _, e3⟩
  have hc : c = s.heap.objs.size + 2 ∨ c = s.heap.objs.size ∨ c = s.heap.objs.size + 1 ∨ c = i1 ∨ c = i2 := by simpa using hc
  have pin : ∀ {x : Addr}, Pn X g s x → Pn X g { s with heap := h5 } x := fun {x} ⟨⟨o, q⟩, z⟩ => ⟨⟨o, up x o q.obj, q.cls, q.fz, q.mu, q.loc, q.cell, q.fr⟩, z⟩
  rcases hc with e | e | e | e | e <;> rw [e]
  · exact ⟨f0.kp.none (none_ 2), r.newPn (k := s.toks) (none_ 2) e3 (NLst.of (show Value.type "zip" ≠ .type "list" by decide))⟩
  · exact ⟨f0.kp.none (none_ 0), r.newPn (k := s.toks) (none_ 0) e1 (NLst.of (show Value.type "tuple" ≠ .type "list" by decide))⟩
  · exact ⟨f0.kp.none (none_ 1), r.newPn (k := s.toks) (none_ 1) e2 (NLst.of (show Value.type "tuple" ≠ .type "list" by decide))⟩
  · exact ⟨n0.1, pin q1⟩
  · exact ⟨n0.2, pin q2⟩
theorem CallOk.in11 {gc : GC} {A : Around} {outer : List Env} {g : Gh} {hp : List AV} {s : Shared} (e : CallOk gc A outer g hp s) : CallOk gc A.in1.in1 outer g hp s := e.in1.in1
theorem ei_zipi {c f : String} (ha : ESd X C a ea) (hb : ESd X C b eb) (hs1 : noStar ea = true) (hs2 : noStar eb = true) (hg : Gl X "zip") (hm : X.gc.mg "zip" = none) (O : IterQ X.gc X.k c f) :
    EId X C (.zipi c f a b) (.Call (.Name "zip" p) [ea, eb] [] pos) (.Tuple elts kk tpos) := ⟨fun g st s Q E r h => by
  rw [evI] at h; simp only [KR_bind] at h
  refine wpAny_Call_Name_kw (ld_blt r hg hm boot_zip2 ?_ (by decide) (by decide))
  refine PyProof.Rows.callWith_type1 ?_ (star_cons hs1) (by rw [star_cons hs2]; rfl)
  rw [star_cons hs1, star_cons hs2]
  refine Calls.spliced_cons (ha.run g st s _ _ r (h.mono fun x st1 h g1 s1 u1 r1 f1 t1 => ?_))
  refine Calls.spliced_cons (hb.run g1 st1 s1 _ _ r1 (h.mono fun y st2 hh g2 s2 u2 r2 f2 t2 => Calls.spliced_nil ?_))
  have l1 := (t1.look r1).keep r1 f2
  have l2 := t2.look r2
  obtain ⟨v1, md1⟩ := x
  obtain ⟨v2, md2⟩ := y
  cases v1 with
  | ins c' ns vs =>
    cases v2 with
    | tup ys =>
      dsimp only at hh
      split at hh
      case isFalse => exact hh.elim
      rename_i hc
      simp only [KR_bind] at hh
      obtain ⟨xs, e, hh⟩ := KR_ofO hh
      clear h
      subst hc
      have hf : insGet f ns vs = some (.lst xs) := by
        unfold lstF at e
        split at e
        · rename_i ys e1
          cases e
          exact e1
        · cases e
      have l1 : Rep X.gc g2 s2.heap (.ins c' ns vs) u1 := l1
      obtain ⟨a0, dx, Ca, us, rfl, I⟩ := ins_of l1
      simp only [RepB, Rep] at l2
      obtain ⟨p2, us2, rfl, hf2, t2', q2⟩ := l2
      obtain ⟨fm, j, hj, h1, h2, h3⟩ := O Ca I.cls
      obtain ⟨od, J, _⟩ := I.obj.look
      have f12 := f1.trans f2
      refine callType_newIn PySem.F.called_zip (by decide) (PySem.F.typeCall_zip_2 _ _) (PySem.F.newCall_zip_2 _ _) (fun obj => PySem.F.args_object_init_3 obj _ _) PySem.F.entry_zip_new (zip_new (.ref a0) (.ref p2)) ?_
      refine iter_ins (kIn r2) J h1 h2 (wpAny_call ?_)
      refine h3 X.A.in1.in1 X.stack s2 g2 st2.hp ns vs xs (.ref a0) _ ((r2.ok.room.mono hj).in1).in1 r2.callOk.in11 l1 hf fun g3 s3 it p1 us1 ce hn nf nm ti hfz l3 q3 => ?_
      obtain ⟨r3, f3⟩ := r2.after ce
      have m3 := f3.mono r2
      refine ⟨it, p1, 0, rfl, ti, wpAny_pyIter_tuple (show s3.heap.IsTuple p2 us2.toArray from (t2'.mono fun o z => m3.obj p2 o hf2 z).2.1) ?_⟩
      obtain ⟨r4, f4, hn4, pn4⟩ := r3.newIt (o := { cls := .type "tuple_iterator", data := .fields #[.ref p2, .int 0 0] }) (k := s3.toks) (by show Value.type _ ≠ .type "list"; decide) rfl (Nat.le_refl _)
      have m4 := f4.mono r3
      have m34 := m3.trans m4
      have itin : ∃ o, s3.heap.get? it = some o := let ⟨o, e, _⟩ := ti; ⟨o, e⟩
      have ne : it ≠ s3.heap.objs.size := fun q => some_ne itin (q ▸ hn4)
      have ti4 : ItAt true ({ s3 with heap := s3.heap.push { cls := .type "tuple_iterator", data := .fields #[.ref p2, .int 0 0] } } : Shared).heap it p1 0 := Heap.IsListIter.at ti fun o z => Heap.get?_push_of_some _ z
      have pit : Pn X g3 { s3 with heap := s3.heap.push { cls := .type "tuple_iterator", data := .fields #[.ref p2, .int 0 0] } } it := by
        obtain ⟨o, e, cl, _⟩ := ti4
        exact ⟨⟨o, e, NLst.of (by rw [cl]; decide), nf, nm, fun z => some_ne (z ▸ r2.locIn) hn, fun x c e z => some_ne (z ▸ r2.cellIn e) hn, fun z => some_ne (r2.frIn z) hn⟩, r2.h0none hn⟩
      have f04 := (f12.trans f3).trans f4
      have lp1 : LstAt ({ s3 with heap := s3.heap.push { cls := .type "tuple_iterator", data := .fields #[.ref p2, .int 0 0] } } : Shared).heap p1 us1 := l3.mono fun o z => m4.obj p1 o hfz z
      refine zip_made (elts := elts) (kk := kk) (tpos := tpos) (Q := fun v s' => wants (fun obj s₁ => s₁.TypeIs obj "zip" ∧ wpAny (model X.gc.P X.gc.w) X.A (pyIter obj) Q E s₁) E (.ok (.ret v)) s') (b1 := true) (b2 := false) (p1 := p1) (p2 := p2) (us1 := us1) (us2 := us2) (xs := xs) (ys := ys) f04 r4 pit pn4 ⟨f12.kp.none hn, (f12.trans f3).kp.none hn4⟩ ne ti4 ⟨_, Heap.get?_push_size _ rfl, rfl, rfl⟩ hfz (m3.fz p2 hf2) lp1
        (t2'.mono fun o z => m34.obj p2 o hf2 z) (RepL.mono m4 q3) (RepL.mono m34 q2) fun g5 s5 z fp T r5 f5 I5 t5 pn5 hz => ?_
      obtain ⟨TI, TO, hz⟩ := hz
      exact ⟨⟨_, hz, rfl⟩, wpAny_pyIter_zip hz (hh g5 s5 z fp T r5 f5 I5 t5 pn5)⟩
    | _ => exact hh.elim
  | _ => exact hh.elim⟩
end
end Q
end

section
set_option Elab.async false
set_option linter.all false
set_option maxRecDepth 100000
/-! Core16: list comprehensions. -/
namespace Q
open PySem PySem.Spec PyProof.Rows PySem.Builtin

/-- a comprehension's block as a frame -/
def blkX (X : Fx) (scope : Scope) (ce : Env) : Fx := { X with env := ce, fn := fun y => scope.names.lookup y == some .cell }
def ceOf (X : Fx) (scope : Scope) (h : Heap) : Env := compEnvC scope (cellsFrom (h.objs.size + 1) scope.names (L2.cloFrom X.env.cells scope.names [])) h.objs.size X.env
def blkH (scope : Scope) (h : Heap) : Heap := pushCells (h.push { cls := .type "dict", data := .dict #[] }) scope.names

theorem wipe_get (st : S) : ∀ (own : List Nat) (i : Nat), (st.wipe own).get i = if i ∈ own then none else st.get i
  | [], i => by simp [S.wipe, wipeL, S.get]
  | o :: own, i => by
    have ih := wipe_get st own i
    unfold S.wipe S.get at ih ⊢
    simp only [wipeL] at ih ⊢
    by_cases h : i = o
    · subst h
      rw [if_pos List.mem_cons_self]
      by_cases hl : i < (wipeL st.sl own).length
      · rw [List.getElem?_set_self hl]; rfl
      · rw [List.getElem?_eq_none (by rw [List.length_set]; omega)]; rfl
    · rw [List.getElem?_set_ne (fun z => h z.symm), ih]
      by_cases h2 : i ∈ own
      · rw [if_pos h2, if_pos (List.mem_cons_of_mem _ h2)]
      · rw [if_neg h2, if_neg (fun z => (List.mem_cons.mp z).elim h h2)]
theorem wipeL_len (l : List (Option (AV × Bool))) : ∀ own : List Nat, (wipeL l own).length = l.length
  | [] => rfl
  | o :: own => by rw [wipeL, List.length_set, wipeL_len l own]

section
variable {X : Fx} {C : Oracle} {g g' g1 g2 : Gh} {st st' st1 st2 : S} {s s' s1 s2 : Shared} {u w : Value} {E : Value → Shared → Prop} {a : Addr}
variable {scope : Scope} {own : List (Str × Nat)}

/-- what is known of a block's names -/
structure BlkN (X : Fx) (scope : Scope) (own : List (Str × Nat)) (h : Heap) : Prop where
  /-- a captured name -/
  seen : ∀ i, i ∉ own.map (·.2) → VisAt (blkX X scope (ceOf X scope h)) i → ∃ y c, X.N[i]? = some y ∧ L2.Vis X.env.scope y ∧ (X.env.kindOf y = some .cell ∨ X.env.kindOf y = some .free) ∧ X.env.cells.lookup y = some c ∧
    ((ceOf X scope h).kindOf y = some .cell ∨ (ceOf X scope h).kindOf y = some .free) ∧ (ceOf X scope h).cells.lookup y = some c

theorem blk_facts (r : SR X g st s) (ok : L2.BlkOk X.N X.env.scope scope own) : BlkN X scope own s.heap ∧
    (∀ y c, (ceOf X scope s.heap).cells.lookup y = some c → (X.env.cells.lookup y = some c ∧ c < s.heap.objs.size ∧ scope.names.lookup y = some .free) ∨ (s.heap.objs.size + 1 ≤ c ∧ (blkH scope s.heap).IsCell c none ∧ scope.names.lookup y = some .cell)) ∧
    (∀ y z c, (ceOf X scope s.heap).cells.lookup y = some c → (ceOf X scope s.heap).cells.lookup z = some c → y = z) ∧
    (∀ y, ((ceOf X scope s.heap).kindOf y = some .cell ∨ (ceOf X scope s.heap).kindOf y = some .free) → ∃ c, (ceOf X scope s.heap).cells.lookup y = some c) := by
  have free : ∀ y ∈ scope.names, y.2 = .free → ∃ c, X.env.cells.lookup y.1 = some c := fun y hy e => (ok.free y hy e).elim (fun k => r.ok.has _ (.inl k)) fun k => r.ok.has _ (.inr k)
  have scp : (ceOf X scope s.heap).scope = L2.relS scope X.env.scope := rfl
  have cls : (ceOf X scope s.heap).cells = cellsFrom (s.heap.push { cls := .type "dict", data := .dict #[] }).objs.size scope.names (L2.cloFrom X.env.cells scope.names []) := by
    rw [Heap.size_push]; rfl
  have clo : ∀ {y c}, (y, c) ∈ L2.cloFrom X.env.cells scope.names [] → X.env.cells.lookup y = some c ∧ c < s.heap.objs.size ∧ scope.names.lookup y = some .free := fun {y c} hm => by
    rcases L2.cloFrom_mem hm with hm | ⟨h1, rfl⟩
    · cases hm
    · obtain ⟨c, hc⟩ := free _ h1 rfl
      obtain ⟨o, eo⟩ := r.cellIn hc
      rw [hc]
      exact ⟨rfl, Heap.lt_size eo, ok.uniq _ h1⟩
  have memb : ∀ y c, (ceOf X scope s.heap).cells.lookup y = some c → (X.env.cells.lookup y = some c ∧ c < s.heap.objs.size ∧ scope.names.lookup y = some .free) ∨ (s.heap.objs.size + 1 ≤ c ∧ (blkH scope s.heap).IsCell c none ∧ scope.names.lookup y = some .cell) := fun y c e => by
    rw [cls] at e
    rcases L2.cells_mem (PySem.mem_of_lookup e) with hm | ⟨h1, h2, h3⟩
    · exact .inl (clo hm)
    · rw [Heap.size_push] at h2; exact .inr ⟨h2, h3, ok.uniq _ h1⟩
  have look : ∀ {y}, scope.names.lookup y = some .free → ∃ c, (ceOf X scope s.heap).cells.lookup y = some c ∧ X.env.cells.lookup y = some c := fun {y} hl => by
    obtain ⟨c', e'⟩ := L2.mem_lookup (L2.cells_acc (names := scope.names) (n := (s.heap.push { cls := .type "dict", data := .dict #[] }).objs.size) (L2.cloFrom_has (cells := X.env.cells) (acc := []) (PySem.mem_of_lookup hl)))
    rw [← cls] at e'
    refine ⟨c', e', ?_⟩
    rcases memb _ _ e' with h | ⟨_, _, h⟩
    · exact h.1
    · rw [hl] at h; cases h
  refine ⟨⟨fun i hi hv => ?_⟩, memb, fun y z c e1 e2 => ?_, fun y hy => ?_⟩
  · obtain ⟨y, e1, hv⟩ := hv
    have e1 : X.N[i]? = some y := e1
    have key : ∀ k, (ceOf X scope s.heap).scope.names.lookup y = some k → k = .local ∨ k = .cell ∨ k = .free → scope.names.lookup y = some .free ∧ ((ceOf X scope s.heap).kindOf y = some .cell ∨ (ceOf X scope s.heap).kindOf y = some .free) := fun k hk hk' => by
      have hk0 := hk
      rw [scp] at hk
      obtain ⟨k', e, rr⟩ := L2.lookup_relS hk
      have no : ¬ (k' = .local ∨ k' = .cell) := fun hh => by
        rcases ok.own _ (PySem.mem_of_lookup e) hh with q | q
        · obtain ⟨p, hp, hpy⟩ := List.mem_map.mp q
          have e3 := ok.ix p hp
          rw [show p.1 = y from hpy] at e3
          exact hi (List.mem_map.mpr ⟨p, hp, L2.nodup_ix r.ok.nd e3 e1⟩)
        · exact q (List.mem_of_getElem? e1)
      rcases rr with rfl | ⟨rfl, rfl⟩
      · rcases hk' with rfl | rfl | rfl
        · exact absurd (.inl rfl) no
        · exact absurd (.inr rfl) no
        · exact ⟨e, .inr hk0⟩
      · exact ⟨e, .inl hk0⟩
    have hf : scope.names.lookup y = some .free ∧ ((ceOf X scope s.heap).kindOf y = some .cell ∨ (ceOf X scope s.heap).kindOf y = some .free) := by
      rcases (show L2.Vis (ceOf X scope s.heap).scope y from hv) with h | h | h
      · exact key _ h (.inl rfl)
      · exact key _ h (.inr (.inl rfl))
      · exact key _ h (.inr (.inr rfl))
    obtain ⟨c, h1, h2⟩ := look hf.1
    have hk := ok.free _ (PySem.mem_of_lookup hf.1) rfl
    exact ⟨y, c, e1, hk.elim (fun k => .inr (.inl k)) (fun k => .inr (.inr k)), hk, h2, hf.2, h1⟩
  · rw [cls] at e1 e2
    refine L2.cells_inj (fun p hp => ?_) (fun y z c a b => r.ok.inj y z c (clo a).1 (clo b).1) (PySem.mem_of_lookup e1) (PySem.mem_of_lookup e2)
    rw [Heap.size_push]
    exact Nat.lt_succ_of_lt (clo (y := p.1) (c := p.2) hp).2.1
  · have key : ∀ k, (ceOf X scope s.heap).kindOf y = some k → (k = .cell ∨ k = .free) → ∃ c, (ceOf X scope s.heap).cells.lookup y = some c := fun k hk hk' => by
      unfold Env.kindOf at hk
      rw [scp] at hk
      obtain ⟨k', e, rr⟩ := L2.lookup_relS hk
      have : k' = .cell ∨ k' = .free := by
        rcases rr with rfl | ⟨rfl, _⟩
        · exact hk'
        · exact .inr rfl
      rcases this with rfl | rfl
      · obtain ⟨c, hm⟩ := L2.cells_has (n := (s.heap.push { cls := .type "dict", data := .dict #[] }).objs.size) (acc := L2.cloFrom X.env.cells scope.names []) (PySem.mem_of_lookup e)
        obtain ⟨c', e'⟩ := L2.mem_lookup hm
        exact ⟨c', by rw [cls]; exact e'⟩
      · obtain ⟨c, h1, _⟩ := look e
        exact ⟨c, h1⟩
    exact hy.elim (fun h => key _ h (.inl rfl)) fun h => key _ h (.inr rfl)

/-- a captured slot's value, seen from outside -/
theorem at_out {h : Heap} (B : BlkN X scope own h) {i : Nat} (hi : i ∉ own.map (·.2)) (hns : ∃ m, s.heap.Ns X.env.locals m) (a0 : At (blkX X scope (ceOf X scope h)) s i u) : At X s i u := by
  obtain ⟨y, c, e1, hv, hk, hc, hk2, hc2⟩ := B.seen i hi a0.vis
  obtain ⟨y', e1', hv', m, n, l⟩ := a0
  have e1' : X.N[i]? = some y' := e1'
  rw [e1] at e1'; cases e1'
  obtain ⟨m2, n2⟩ := hns
  rcases l with ⟨k, _⟩ | ⟨_, c', ec', z⟩
  · have k : (ceOf X scope h).kindOf y = some .local := k
    rw [k] at hk2; rcases hk2 with q | q <;> cases q
  · have ec' : (ceOf X scope h).cells.lookup y = some c' := ec'
    rw [hc2] at ec'; cases ec'
    exact ⟨y, e1, hv, m2, n2, .inr ⟨hk, c, hc, z⟩⟩
theorem at_in {h : Heap} (B : BlkN X scope own h) {i : Nat} (hi : i ∉ own.map (·.2)) (hv : VisAt (blkX X scope (ceOf X scope h)) i) (hns : ∃ m, s.heap.Ns (ceOf X scope h).locals m) (a0 : At X s i u) : At (blkX X scope (ceOf X scope h)) s i u := by
  obtain ⟨y, c, e1, _, hk, hc, hk2, hc2⟩ := B.seen i hi hv
  obtain ⟨y', e1', hv', m, n, l⟩ := a0
  rw [e1] at e1'; cases e1'
  obtain ⟨m2, n2⟩ := hns
  obtain ⟨y2, e2, hv2⟩ := hv
  have e2 : X.N[i]? = some y2 := e2
  rw [e1] at e2; cases e2
  rcases l with ⟨k, _⟩ | ⟨_, c', ec', z⟩
  · rw [k] at hk; rcases hk with q | q <;> cases q
  · rw [hc] at ec'; cases ec'
    exact ⟨y, e1, hv2, m2, n2, .inr ⟨hk2, c, hc2, z⟩⟩

/-- the block's start -/
theorem blk_start (r : SR X g st s) (ok : L2.BlkOk X.N X.env.scope scope own) :
    SR (blkX X scope (ceOf X scope s.heap)) g (st.wipe (own.map (·.2))) { s with heap := blkH scope s.heap } := by
  obtain ⟨B, memb, inj, has⟩ := blk_facts r ok
  have kp : ∀ b o, s.heap.get? b = some o → (blkH scope s.heap).get? b = some o := fun b o e => pushCells_keeps _ _ _ _ (Heap.get?_push_of_some _ e)
  obtain ⟨r1, f1⟩ := r.ext (k := s.toks) (h' := blkH scope s.heap) kp (Nat.le_refl _)
  have fresh : ∀ b, s.heap.objs.size ≤ b → ¬ g.fz b ∧ ¬ g.mu b ∧ s.heap.get? b = none := fun b hb => by
    have hn : s.heap.get? b = none := Heap.get?_none_of_le hb
    exact ⟨fun z => some_ne (r.gh.fzIn b z) hn, fun z => some_ne (r.gh.thIn b z) hn, hn⟩
  have hL : (ceOf X scope s.heap).locals = s.heap.objs.size := rfl
  have cF : ∀ y c, (ceOf X scope s.heap).cells.lookup y = some c → (¬ g.fz c ∧ ¬ g.mu c) ∧ c ≠ s.heap.objs.size := fun y c e => by
    rcases memb y c e with ⟨h, lt, _⟩ | ⟨h, _⟩
    · exact ⟨⟨r.fzC y c h, r.muC y c h⟩, Nat.ne_of_lt lt⟩
    · have := fresh c (Nat.le_of_succ_le h)
      exact ⟨⟨this.1, this.2.1⟩, Nat.ne_of_gt h⟩
  have ns : (blkH scope s.heap).Ns s.heap.objs.size fun _ => none := Heap.Ns.keeps (Heap.Ns.new ..) fun b o e => pushCells_keeps _ _ _ _ e
  have lo0 : ∀ b, s.heap.objs.size ≤ b → X.h0.get? b = none := fun b hb => r.h0none (Heap.get?_none_of_le hb)
  have sl : ∀ {i v o}, (st.wipe (own.map (·.2))).get i = some (v, o) → i ∉ own.map (·.2) ∧ st.get i = some (v, o) := fun {i v o} e => by
    rw [wipe_get] at e
    by_cases hi : i ∈ own.map (·.2)
    · rw [if_pos hi] at e; cases e
    · rw [if_neg hi] at e; exact ⟨hi, e⟩
  have fok : FxOk (blkX X scope (ceOf X scope s.heap)) := by
    refine ⟨r.ok.mod, ok.kind, r.ok.glob, r.ok.blt, r.ok.nd, fun y z c e1 e2 => inj y z c e1 e2, fun y hy => has y hy, fun y c e z => (cF y c e).2 z, r.ok.room, r.ok.frames, r.ok.loB, lo0 _ (Nat.le_refl _), r.ok.bk, fun y c e k h => ?_⟩
    have e : (scope.names.lookup y == some NameKind.cell) = true := e
    have e : scope.names.lookup y = some .cell := by simpa using e
    rcases memb y c h with ⟨h1, h2, _⟩ | ⟨h1, _⟩
    · have hh : (ceOf X scope s.heap).cells.lookup y = some c := h
      rw [show (ceOf X scope s.heap).cells = cellsFrom (s.heap.push { cls := .type "dict", data := .dict #[] }).objs.size scope.names (L2.cloFrom X.env.cells scope.names []) by rw [Heap.size_push]; rfl] at hh
      rcases L2.cells_mem (PySem.mem_of_lookup hh) with hm | ⟨_, h4, _⟩
      · rcases L2.cloFrom_mem hm with hm | ⟨h5, _⟩
        · cases hm
        · have q := ok.uniq _ h5
          rw [e] at q; cases q
      · rw [Heap.size_push] at h4
        exact absurd (Nat.lt_trans h4 h2) (Nat.lt_irrefl _)
    · exact lo0 c (Nat.le_of_succ_le h1)
  refine ⟨fok, r.bare, r1.base, r1.ent, r1.funs, ⟨_, ns⟩, fun y c e => ?_, r1.gh, (fresh _ (Nat.le_refl _)).1, fun y c e => (cF y c e).1.1, r.fzF, (fresh _ (Nat.le_refl _)).2.1, fun y c e => (cF y c e).1.2, r.muF, fun i v o e hv => ?_, fun i j v w u e1 e2 a1 a2 => ?_, (wipeL_len _ _).trans r.len, r1.frD⟩
  · rcases memb y c e with ⟨h, _⟩ | ⟨_, h, _⟩
    · exact r1.cell y c h
    · exact ⟨_, h⟩
  · obtain ⟨hi, e⟩ := sl e
    obtain ⟨y, c, e1, hv2, _⟩ := B.seen i hi hv
    obtain ⟨u, a0, sv⟩ := r1.slot i v o e ⟨y, e1, hv2⟩
    refine ⟨u, at_in B hi hv ⟨_, ns⟩ a0, ?_⟩
    cases o with
    | false => exact sv
    | true => exact sv
  · obtain ⟨hi, e1⟩ := sl e1
    obtain ⟨hj, e2⟩ := sl e2
    exact r1.dist i j v w u e1 e2 (at_out B hi r1.ns a1) (at_out B hj r1.ns a2)

/-- from the expression's start to within the block -/
structure BlkE (X : Fx) (own : List Nat) (g : Gh) (st : S) (s : Shared) (g' : Gh) (st' : S) (s' : Shared) : Prop where
  os : s'.os = s.os
  kp : Kp g.mu (L2.frs X.stack) s.heap s'.heap
  fz : ∀ a, g.fz a → g'.fz a
  fzNew : ∀ a, g'.fz a → g.fz a ∨ s.heap.get? a = none ∨ ∃ i v, st.get i = some (v, true) ∧ At X s i (.ref a) ∧ ∀ w, st'.get i ≠ some (w, true)
  th : ∃ more, g'.th = g.th ++ more ∧ ∀ p ∈ more, Nw s.heap p
  tk : ∀ t x, g.tk t = some x → g'.tk t = some x
  toks : s.toks ≤ s'.toks
  sl : ∀ j, j ∉ own → st'.get j = st.get j ∨ st'.get j = none ∨ (VisAt X j ∧ ∃ v a, st.get j = some (v, true) ∧ st'.get j = some (v, false) ∧ At X s j (.ref a) ∧ g'.fz a)
  ow : ∀ j ∈ own, ∀ w, st'.get j ≠ some (w, true)
end
end Q
end

section
set_option Elab.async false
set_option linter.all false
set_option maxRecDepth 100000
/-! Core17: list comprehensions, the loop. -/
namespace Q
open PySem PySem.Spec PyProof.Rows PySem.Builtin

section
variable {X : Fx} {C : Oracle} {g g' g1 g2 : Gh} {st st' st1 st2 : S} {s s' s1 s2 : Shared} {u w : Value} {E : Value → Shared → Prop} {a : Addr}
variable {scope : Scope} {own : List (Str × Nat)} {h : Heap} {ow : List Nat}

theorem BlkE.heap (b : BlkE X ow g st s g1 st1 s1) (os : s2.os = s1.os) (kp : ∀ b o, (∃ o0, s.heap.get? b = some o0) → s1.heap.get? b = some o → s2.heap.get? b = some o) (fz : g2.fz = g1.fz) (th : g2.th = g1.th) (tk : ∀ t x, g1.tk t = some x → g2.tk t = some x)
    (toks : s1.toks ≤ s2.toks) (sl : ∀ j, j ∉ ow → st2.get j = st1.get j) (o : ∀ j ∈ ow, ∀ w, st2.get j ≠ some (w, true)) : BlkE X ow g st s g2 st2 s2 where
  os := os.trans b.os
  kp := ⟨fun a o e n f => kp a o ⟨_, e⟩ (b.kp.keep a o e n f), fun a o e n => let ⟨sl, e1⟩ := b.kp.slot a o e n; ⟨sl, kp a _ ⟨_, e⟩ e1⟩, fun a o e => let ⟨o1, e1⟩ := b.kp.there a o e; ⟨o1, kp a o1 ⟨_, e⟩ e1⟩⟩
  fz a f := by rw [fz]; exact b.fz a f
  fzNew a f := by
    rw [fz] at f
    rcases b.fzNew a f with h | h | ⟨i, v, e, a0, n⟩
    · exact .inl h
    · exact .inr (.inl h)
    · refine .inr (.inr ⟨i, v, e, a0, fun w z => ?_⟩)
      by_cases hi : i ∈ ow
      · exact o i hi w z
      · rw [sl i hi] at z; exact n w z
  th := by rw [th]; exact b.th
  tk t x e := tk t x (b.tk t x e)
  toks := Nat.le_trans b.toks toks
  sl j hj := by rw [sl j hj, fz]; exact b.sl j hj
  ow := o
/-- a turn of an iterator: new frozen objects -/
theorem BlkE.turn (b : BlkE X ow g st s g1 st1 s1) (os : s2.os = s1.os) (kp : ∀ b o, (∃ o0, s.heap.get? b = some o0) → s1.heap.get? b = some o → s2.heap.get? b = some o) (fz : ∀ a, g1.fz a → g2.fz a) (fzN : ∀ a, g2.fz a → g1.fz a ∨ s1.heap.get? a = none) (th : g2.th = g1.th) (tk : ∀ t x, g1.tk t = some x → g2.tk t = some x)
    (toks : s1.toks ≤ s2.toks) : BlkE X ow g st s g2 st1 s2 where
  os := os.trans b.os
  kp := ⟨fun a o e n f => kp a o ⟨_, e⟩ (b.kp.keep a o e n f), fun a o e n => let ⟨sl, e1⟩ := b.kp.slot a o e n; ⟨sl, kp a _ ⟨_, e⟩ e1⟩, fun a o e => let ⟨o1, e1⟩ := b.kp.there a o e; ⟨o1, kp a o1 ⟨_, e⟩ e1⟩⟩
  fz a f := fz a (b.fz a f)
  fzNew a f := by
    rcases fzN a f with h | h
    · exact b.fzNew a h
    · exact .inr (.inl (b.kp.none h))
  th := by rw [th]; exact b.th
  tk t x e := tk t x (b.tk t x e)
  toks := Nat.le_trans b.toks toks
  sl j hj := by
    rcases b.sl j hj with h | h | ⟨v, w, a, h1, h2, h3, h4⟩
    · exact .inl h
    · exact .inr (.inl h)
    · exact .inr (.inr ⟨v, w, a, h1, h2, h3, fz a h4⟩)
  ow := b.ow
/-- where an owned list of the block comes from -/
theorem BlkE.from0 (r : SR X g st s) (b : BlkE X (own.map (·.2)) g st s g1 st1 s1) (B : BlkN X scope own h) (o : OwnA (blkX X scope (ceOf X scope h)) st1 s1 a) : ∃ i v, i ∉ own.map (·.2) ∧ st.get i = some (v, true) ∧ st1.get i = some (v, true) ∧ At X s i (.ref a) := by
  obtain ⟨i, v, e, a0⟩ := o
  have hi : i ∉ own.map (·.2) := fun z => b.ow i z v e
  have e2 : st.get i = some (v, true) := by
    rcases b.sl i hi with k | k | ⟨_, w, _, _, k, _⟩
    · rw [← k]; exact e
    · rw [k] at e; cases e
    · rw [k] at e; cases e
  have kl : ∀ o, s.heap.get? X.env.locals = some o → ∃ sl, s1.heap.get? X.env.locals = some { o with slots := sl } := fun o e => b.kp.slot _ o e r.muL
  have kc : ∀ x c, X.env.cells.lookup x = some c → ∀ o, s.heap.get? c = some o → ∃ sl, s1.heap.get? c = some { o with slots := sl } := fun x c e o q => b.kp.slot _ o q (r.muC x c e)
  obtain ⟨m, n⟩ := r.ns
  have a1 := at_out B hi ⟨m, Ns.slots n kl⟩ a0
  obtain ⟨u0, a2, _⟩ := r.slot i v true e2 a1.vis
  have := (a2.keep kl kc).inj a1
  exact ⟨i, v, hi, e2, e, this ▸ a2⟩
theorem BlkE.fr (r : SR X g st s) (b : BlkE X (own.map (·.2)) g st s g1 st1 s1) (B : BlkN X scope own h) (r1 : SR (blkX X scope (ceOf X scope h)) g1 st1 s1) (f : FrE (blkX X scope (ceOf X scope h)) g1 st1 s1 g2 st2 s2) (r2 : SR (blkX X scope (ceOf X scope h)) g2 st2 s2) :
    BlkE X (own.map (·.2)) g st s g2 st2 s2 where
  os := f.os.trans b.os
  kp := by
    obtain ⟨m, e, hm⟩ := b.th
    exact b.kp.trans f.kp fun x o hx q => mut_of e hm hx q
  fz a e := f.fz a (b.fz a e)
  fzNew a e := by
    rcases f.fzNew a e with h1 | h1 | h1
    · rcases b.fzNew a h1 with k | k | ⟨i, v, ei, a0, n⟩
      · exact .inl k
      · exact .inr (.inl k)
      · refine .inr (.inr ⟨i, v, ei, a0, fun w z => ?_⟩)
        rcases f.sl i with k | k | ⟨_, w2, _, k⟩
        · rw [k] at z; exact n w z
        · rw [k] at z; cases z
        · rw [k] at z; cases z
    · exact .inr (.inl (b.kp.none h1))
    · obtain ⟨j, w0, ej, b0⟩ := h1
      obtain ⟨i, v, hi, ei, ei1, a0⟩ := BlkE.from0 r b B ⟨j, w0, ej, b0⟩
      obtain ⟨j2, v2, e3, b2⟩ : OwnA (blkX X scope (ceOf X scope h)) st1 s1 a := ⟨j, w0, ej, b0⟩
      refine .inr (.inr ?_)
      have hj : j ∉ own.map (·.2) := fun z => b.ow j z w0 ej
      -- j itself
      have ej0 : st.get j = some (w0, true) := by
        rcases b.sl j hj with k | k | ⟨_, w, _, _, k, _⟩
        · rw [← k]; exact ej
        · rw [k] at ej; cases ej
        · rw [k] at ej; cases ej
      have kl : ∀ o, s.heap.get? X.env.locals = some o → ∃ sl, s1.heap.get? X.env.locals = some { o with slots := sl } := fun o e => b.kp.slot _ o e r.muL
      have kc : ∀ x c, X.env.cells.lookup x = some c → ∀ o, s.heap.get? c = some o → ∃ sl, s1.heap.get? c = some { o with slots := sl } := fun x c e o q => b.kp.slot _ o q (r.muC x c e)
      obtain ⟨m, n⟩ := r.ns
      have a1 := at_out B hj ⟨m, Ns.slots n kl⟩ b0
      obtain ⟨u0, a2, _⟩ := r.slot j w0 true ej0 a1.vis
      have := (a2.keep kl kc).inj a1
      subst this
      refine ⟨j, w0, ej0, a2, fun w z => ?_⟩
      have b3 := b0.fr r1 f
      obtain ⟨u3, a3, p3, xs, us, e3, _, l, q, nf, _⟩ := r2.slot j w true z b3.vis
      have := a3.inj b3
      rw [e3] at this
      cases this
      exact nf e
  th := by
    obtain ⟨m, e, hm⟩ := b.th
    obtain ⟨n, e2, hn⟩ := f.th
    refine ⟨m ++ n, by rw [e2, e, List.append_assoc], fun p hp => ?_⟩
    rcases List.mem_append.mp hp with h | h
    · exact hm p h
    · exact fun b2 e2 => b.kp.none (hn p h b2 e2)
  tk t x e := f.tk t x (b.tk t x e)
  toks := Nat.le_trans b.toks f.toks
  sl j hj := by
    rcases f.sl j with k | k | ⟨hv, v, k1, k2⟩
    · rw [k]
      rcases b.sl j hj with k | k | ⟨h1, v, a, h2, h3, h4, h5⟩
      · exact .inl k
      · exact .inr (.inl k)
      · exact .inr (.inr ⟨h1, v, a, h2, h3, h4, f.fz a h5⟩)
    · exact .inr (.inl k)
    · rcases b.sl j hj with k | k | ⟨_, w, _, _, k, _⟩
      · obtain ⟨y, c, e1, hv2, _⟩ := B.seen j hj hv
        refine .inr (.inr ⟨⟨y, e1, hv2⟩, v, ?_⟩)
        obtain ⟨u0, a0, p, xs, us, rfl, rfl, l, q, _⟩ := r.slot j v true (k ▸ k1) ⟨y, e1, hv2⟩
        obtain ⟨u2, b2, q2⟩ := r2.slot j _ false k2 hv
        obtain ⟨u1, b1, _⟩ := r1.slot j _ true k1 hv
        have kl : ∀ o, s.heap.get? X.env.locals = some o → ∃ sl, s1.heap.get? X.env.locals = some { o with slots := sl } := fun o e => b.kp.slot _ o e r.muL
        have kc : ∀ x c, X.env.cells.lookup x = some c → ∀ o, s.heap.get? c = some o → ∃ sl, s1.heap.get? c = some { o with slots := sl } := fun x c e o q => b.kp.slot _ o q (r.muC x c e)
        obtain ⟨m, n⟩ := r.ns
        have h1 := (a0.keep kl kc).inj (at_out B hj ⟨m, Ns.slots n kl⟩ b1)
        subst h1
        have h2 := (b1.fr r1 f).inj b2
        subst h2
        refine ⟨p, k ▸ k1, k2, a0, ?_⟩
        simp only [SlotV, Rep] at q2
        obtain ⟨p2, _, e2, hf, _⟩ := q2
        cases e2
        exact hf
      · rw [k] at k1; cases k1
      · rw [k] at k1; cases k1
  ow j hj w z := by
    rcases f.sl j with k | k | ⟨_, v, _, k⟩
    · rw [k] at z; exact b.ow j hj w z
    · rw [k] at z; cases z
    · rw [k] at z; cases z
/-- back in the def's frame -/
theorem BlkE.out (r : SR X g st s) (b : BlkE X (own.map (·.2)) g st s g1 st1 s1) (B : BlkN X scope own h) (r1 : SR (blkX X scope (ceOf X scope h)) g1 st1 s1) (hw : ∀ j ∈ own.map (·.2), st1.get j = none) :
    SR X g1 st1 s1 ∧ FrE X g st s g1 st1 s1 := by
  have kl : ∀ o, s.heap.get? X.env.locals = some o → ∃ sl, s1.heap.get? X.env.locals = some { o with slots := sl } := fun o e => b.kp.slot _ o e r.muL
  have kc : ∀ x c, X.env.cells.lookup x = some c → ∀ o, s.heap.get? c = some o → ∃ sl, s1.heap.get? c = some { o with slots := sl } := fun x c e o q => b.kp.slot _ o q (r.muC x c e)
  have mono : GMono g g1 s.heap s1.heap := ⟨fun b' o hf e => b.kp.keep b' o e (fun q => r.gh.thFz b' q hf) (fun q => r.fzF b' q hf), b.fz, let ⟨m, e, _⟩ := b.th; ⟨m, e⟩, b.tk⟩
  obtain ⟨more, et, hm⟩ := b.th
  have nmu : ∀ b, (∃ o, s.heap.get? b = some o) → ¬ g.mu b → ¬ g1.mu b := fun b hb n q => let ⟨_, hb⟩ := hb; n (mut_of et hm hb q)
  have nfz : ∀ c, (∃ o, s.heap.get? c = some o) → ¬ g.fz c → (∀ us, ¬ LstAt s.heap c us) → ¬ g1.fz c := fun c hb n nl q => by
    rcases b.fzNew c q with z | z | ⟨i, v, e, a0, _⟩
    · exact n z
    · exact some_ne hb z
    · obtain ⟨u0, a1, p, xs, us, rfl, _, l, _⟩ := r.slot i _ _ e a0.vis
      have := a1.inj a0
      cases this
      exact nl us l
  have back : ∀ {i v o u}, st.get i = some (v, o) → At X s1 i u → At X s i u := fun {i v o u} e q => by
    obtain ⟨u0, a0, _⟩ := r.slot i v o e q.vis
    exact ((a0.keep kl kc).inj q) ▸ a0
  have was : ∀ {i v o}, st1.get i = some (v, o) → i ∉ own.map (·.2) ∧ ∃ o', st.get i = some (v, o') ∧ (o' = o ∨ (o' = true ∧ o = false)) := fun {i v o} e => by
    have hi : i ∉ own.map (·.2) := fun z => by rw [hw i z] at e; cases e
    refine ⟨hi, ?_⟩
    rcases b.sl i hi with k | k | ⟨_, w, _, k1, k2, _⟩
    · exact ⟨o, by rw [← k]; exact e, .inl rfl⟩
    · rw [k] at e; cases e
    · rw [k2] at e; cases e; exact ⟨true, k1, .inr ⟨rfl, rfl⟩⟩
  have ns1 : ∃ m, s1.heap.Ns X.env.locals m := let ⟨m, n⟩ := r.ns; ⟨m, Ns.slots n kl⟩
  have noL : ∀ us, ¬ LstAt s.heap X.env.locals us := fun us l => by
    obtain ⟨m, o, es, ep, e1, d, _⟩ := r.ns
    obtain ⟨_, n, e⟩ := l
    rw [e] at e1; cases e1; cases d
  refine ⟨⟨r.ok, r1.bare, r1.base, r1.ent, r1.funs, ns1, fun x c e => let ⟨v, z⟩ := r.cell x c e; ⟨v, Cell.slots z (kc x c e)⟩, r1.gh, nfz _ r.locIn r.fzL noL, fun x c e => nfz c (r.cellIn e) (r.fzC x c e) fun us l => ?_, r1.fzF, nmu _ r.locIn r.muL, fun x c e => nmu c (r.cellIn e) (r.muC x c e), r1.muF,
    fun i v o e hv => ?_, fun i j v w u e1 e2 a1 a2 => ?_, r1.len, r1.frD⟩, ?_⟩
  · obtain ⟨v, o, e1, d⟩ := r.cell x c e
    obtain ⟨_, n, e⟩ := l
    rw [e] at e1; cases e1; cases d
  · obtain ⟨hi, o', e0, ho⟩ := was e
    obtain ⟨u, a0, sv⟩ := r.slot i v o' e0 hv
    refine ⟨u, a0.keep kl kc, ?_⟩
    cases o' with
    | false =>
      have : o = false := by rcases ho with h | ⟨h, _⟩; exact h.symm; cases h
      subst this
      exact Rep.mono mono sv
    | true =>
      obtain ⟨p, xs, us, rfl, rfl, l, q, nf, nm, hlo⟩ := sv
      obtain ⟨n1, n2, n3⟩ := r.lstFr l hlo
      have hp : ∃ o, s.heap.get? p = some o := by obtain ⟨_, n, z⟩ := l; exact ⟨_, z⟩
      have l1 : LstAt s1.heap p us := l.mono fun o z => b.kp.keep p o z nm n3
      cases o with
      | true =>
        refine ⟨p, xs, us, rfl, rfl, l1, RepL.mono mono q, fun z => ?_, nmu p hp nm, hlo⟩
        rcases b.fzNew p z with h1 | h1 | ⟨j, w, ej, aj, nj⟩
        · exact nf h1
        · exact some_ne hp h1
        · have := r.dist i j _ _ _ e0 ej a0 aj
          subst this
          exact nj _ e
      | false =>
        -- frozen in the block: seen there
        rcases b.sl i hi with k | k | ⟨_, w, p2, k1, k2, a2, hf⟩
        · rw [k, e0] at e; cases e
        · rw [k] at e; cases e
        · have := a2.inj a0
          cases this
          simp only [SlotV, Rep]
          exact ⟨p, us, rfl, hf, l1, RepL.mono mono q⟩
  · obtain ⟨_, o1, f1, h1⟩ := was e1
    obtain ⟨_, o2, f2, h2⟩ := was e2
    have g1' : o1 = true := by rcases h1 with h | ⟨h, _⟩ <;> exact h
    have g2' : o2 = true := by rcases h2 with h | ⟨h, _⟩ <;> exact h
    subst g1'; subst g2'
    exact r.dist i j v w u f1 f2 (back f1 a1) (back f2 a2)
  · refine ⟨b.os, b.kp, b.fz, fun c e => ?_, ⟨more, et, hm⟩, b.tk, b.toks, fun c ⟨i, v, e, q⟩ => ?_, fun j => ?_⟩
    · rcases b.fzNew c e with h | h | ⟨i, v, ei, ai, _⟩
      · exact .inl h
      · exact .inr (.inl h)
      · exact .inr (.inr ⟨i, v, ei, ai⟩)
    · obtain ⟨_, o1, f1, h1⟩ := was e
      have g1' : o1 = true := by rcases h1 with h | ⟨h, _⟩ <;> exact h
      subst g1'
      exact ⟨i, v, f1, back f1 q⟩
    · by_cases hj : j ∈ own.map (·.2)
      · exact .inr (.inl (hw j hj))
      · rcases b.sl j hj with k | k | ⟨h1, v, a, h2, h3, _⟩
        · exact .inl k
        · exact .inr (.inl k)
        · exact .inr (.inr ⟨h1, v, h2, h3⟩)
end
end Q
end

section
set_option Elab.async false
set_option linter.all false
set_option maxRecDepth 100000
/-! Core18: list comprehensions, as values and as assigned. -/
namespace Q
open PySem PySem.Spec PyProof.Rows PySem.Builtin

/-- a comprehension's tests -/
structure ECd (X : Fx) (C : Oracle) (cs : List IE) (es : List Expr) : Prop where
  run : ∀ (g : Gh) (st : S) (s : Shared) (Q : Bool → Shared → Prop) (E : Value → Shared → Prop), SR X g st s → KR (evC C cs st) (TQ X g st s Q) →
    wpAny (model X.gc.P X.gc.w) X.A (forIn es true fun c r => if r = true then do let ok ← isTrue c X.env (eval c X.env); pure (ForInStep.yield ok) else pure (ForInStep.yield r)) Q E s

section
variable {X : Fx} {C : Oracle} {g g' g1 g2 : Gh} {st st' st1 st2 : S} {s s' s1 s2 : Shared} {u w : Value} {E : Value → Shared → Prop} {a : Addr}
variable {scope : Scope} {own : List (Str × Nat)} {h : Heap} {ow : List Nat}
theorem ec_nil : ECd X C [] [] := ⟨fun g st s Q E r h => by
  rw [evC] at h
  exact wpAny_tests_nil (h g s r FrE.refl)⟩
theorem ec_one {a : IE} {ea : Expr} (ha : ETd X C a ea) : ECd X C [a] [ea] := ⟨fun g st s Q E r h => by
  rw [evC] at h; simp only [KR_bind] at h
  refine wpAny_tests_one (ha.run g st s _ _ r (h.mono fun k st1 h g1 s1 r1 f1 => ?_))
  cases k with
  | true =>
    rw [if_pos rfl, evC] at h
    exact h g1 s1 r1 f1
  | false =>
    rw [if_neg Bool.false_ne_true] at h
    exact h g1 s1 r1 f1⟩
theorem putAll_get : ∀ (is : List Nat) (vs : List AV) (st st' : S), st.putAll is vs = some st' → (∀ j, j ∉ is → st'.get j = st.get j) ∧ (∀ j ∈ is, ∀ w, st.get j = none ∨ True → st'.get j ≠ some (w, true) ∨ st'.get j = st.get j) := by
  intro is
  induction is with
  | nil =>
    intro vs st st' e
    cases vs with
    | nil => cases e; exact ⟨fun _ _ => rfl, fun _ h => nomatch h⟩
    | cons _ _ => cases e
  | cons i is ih =>
    intro vs st st' e
    cases vs with
    | nil => cases e
    | cons v vs =>
      obtain ⟨h1, h2⟩ := ih vs _ st' e
      refine ⟨fun j hj => ?_, fun j hj w _ => ?_⟩
      · rw [h1 j (fun z => hj (List.mem_cons_of_mem _ z)), get_put, if_neg (fun z => hj (by rw [z.1]; exact List.mem_cons_self))]
      · by_cases h3 : j ∈ is
        · rcases h2 j h3 w (.inr trivial) with k | k
          · exact .inl k
          · rw [k, get_put]
            split
            · exact .inl (by simp)
            · exact .inr rfl
        · rw [h1 j h3, get_put]
          split
          · exact .inl (by simp)
          · exact .inr rfl
/-- a target's slots: not owned behind it where they were not -/
theorem asgT_get {t : ITg} {v : AV} (e : asgT t v false st = some st') : (∀ j, j ∉ tgS t → st'.get j = st.get j) ∧ (∀ j ∈ tgS t, ∀ w, st.get j ≠ some (w, true) → st'.get j ≠ some (w, true)) := by
  cases t with
  | nm i =>
    cases e
    refine ⟨fun j hj => ?_, fun j hj w n => ?_⟩
    · rw [get_put, if_neg (fun z => hj (by rw [z.1]; simp [tgS]))]
    · rw [get_put]
      split
      · simp
      · exact n
  | tp is =>
    cases v with
    | tup xs =>
      rw [asgT_tp] at e
      split at e
      · obtain ⟨h1, h2⟩ := putAll_get is xs st st' e
        refine ⟨h1, fun j hj w n => ?_⟩
        rcases h2 j hj w (.inr trivial) with k | k
        · exact k
        · rw [k]; exact n
      · cases e
    | _ => cases e

theorem SR.wiped (r : SR X g st s) (ow : List Nat) : SR X g (st.wipe ow) s := by
  have sub : ∀ {i v o}, (st.wipe ow).get i = some (v, o) → st.get i = some (v, o) := fun {i v o} e => by
    rw [wipe_get] at e
    split at e
    · cases e
    · exact e
  exact ⟨r.ok, r.bare, r.base, r.ent, r.funs, r.ns, r.cell, r.gh, r.fzL, r.fzC, r.fzF, r.muL, r.muC, r.muF, fun i v o e hv => r.slot i v o (sub e) hv, fun i j v w u e1 e2 a1 a2 => r.dist i j v w u (sub e1) (sub e2) a1 a2, (wipeL_len _ _).trans r.len, r.frD⟩
theorem BlkE.wiped (b : BlkE X ow g st s g1 st1 s1) : BlkE X ow g st s g1 (st1.wipe ow) s1 :=
  b.heap rfl (fun _ _ _ e => e) rfl rfl (fun _ _ e => e) (Nat.le_refl _) (fun j hj => by rw [wipe_get, if_neg hj]) fun j hj w => by rw [wipe_get, if_pos hj]; simp
/-- the list that is made -/
structure DAt (X' : Fx) (g : Gh) (s : Shared) (D : Addr) (acc : List AV) : Prop where
  at_ : ∃ us, LstAt s.heap D us ∧ RepL X'.gc g s.heap acc us
  fz : ¬ g.fz D
  mu : ¬ g.mu D
theorem DAt.fr {X' : Fx} {D : Addr} {acc : List AV} (r1 : SR X' g1 st1 s1) (d : DAt X' g1 s1 D acc) (f : FrE X' g1 st1 s1 g2 st2 s2) (no : ¬ OwnA X' st1 s1 D) (nf : D ∉ L2.frs X'.stack) : DAt X' g2 s2 D acc := by
  obtain ⟨⟨us, l, q⟩, h1, h2⟩ := d
  obtain ⟨o, eo⟩ : ∃ o, s1.heap.get? D = some o := let ⟨_, n, e⟩ := l; ⟨_, e⟩
  refine ⟨⟨us, l.mono fun o z => f.kp.keep D o z h2 nf, RepL.mono (f.mono r1) q⟩, fun z => ?_, fun z => ?_⟩
  · rcases f.fzNew D z with k | k | k
    · exact h1 k
    · rw [eo] at k; cases k
    · exact no k
  · obtain ⟨m, e, hm⟩ := f.th
    exact h2 (mut_of e hm eo z)

/-- what a finished comprehension leaves: the list D, the block's dict -/
structure LcEnd (X : Fx) (g : Gh) (st : S) (s : Shared) (acc : List AV) (D L : Addr) (g' : Gh) (st' : S) (s' : Shared) : Prop where
  sr : SR X g' st' s'
  fr : FrE X g st s g' st' s'
  val : RepT X s.heap g' st' s' .fr (.lst acc) (.ref D)
  ns : ∃ m, s'.heap.Ns L m
  nb : NB X g' st' s' L
  new : s.heap.get? L = none
  ne : L ≠ D

theorem lc_core {elt tg iter : Expr} {ifs : List Expr} {pos pos' : Pos} {ie it : IE} {t : ITg} {cs : List IE} {use : Option (Value → Sem Unit)} {Qf : Value → Shared → Prop} {fin : List AV → S → Prop}
    (r : SR X g st s) (hi : EId X C it iter tg) (ok : L2.BlkOk X.N X.env.scope scope own) (hown : ∀ i ∈ tgS t, i ∈ own.map (·.2)) (hfr : ∀ i ∈ tgS t, ∀ y, X.N[i]? = some y → scope.names.lookup y ≠ some .free)
    (hg : ∀ h : Heap, TGd (blkX X scope (ceOf X scope h)) t tg) (ht : ∀ h : Heap, ECd (blkX X scope (ceOf X scope h)) C cs ifs) (he : ∀ h : Heap, ESd (blkX X scope (ceOf X scope h)) C ie elt)
    (hs : noSet iter = true)
    (hw : KR (evI C it st) fun xs st1 => KR (lcI (fun x s => match asgT t x false s with
        | none => .stuck
        | some s => (evC C cs s).bind fun k s => if k then (ev C ie s).bind fun y s => .ok (some y.1) ((s.esc y.2).wipe (own.map (·.2))) else .ok none (s.wipe (own.map (·.2)))) xs [] (st1.wipe (own.map (·.2)))) fin)
    (hRR : ∀ acc D L g' st' s', fin acc st' → LcEnd X g st s acc D L g' st' s' → compPost (model X.gc.P X.gc.w) X.A E use Qf (.ref D) L (.ok .next) s') :
    wpAny (model X.gc.P X.gc.w) X.A (comprehension (.ListComp elt [⟨tg, iter, ifs, 0⟩] scope pos) scope X.env pos' (newList []) false (eval iter X.env) use) Qf E s := by
  have hfree : ∀ y ∈ scope.names, y.2 = .free → ∃ c, X.env.cells.lookup y.1 = some c := fun y hy e => (ok.free y hy e).elim (fun k => r.ok.has _ (.inl k)) fun k => r.ok.has _ (.inr k)
  refine wpAny_comprehension_free (use := use) rfl (fun x => foldedOk (by intro a b c z; have z : iter = .Set a b c := z; rw [z] at hs; cases hs) _ _) (L2.closure_ok hfree) ok.kind (fun y hy e => by rw [ok.uniq y hy, e])
    (hi.run g st s _ _ r (hw.mono fun xs st1 hx g1 s1 itA fp T r1 f1 I t0 hfp => ?_))
  refine wpAny_newObj_type (L2.newEnv_comp ?_) (by show 0 ≤ sizeLine; decide)
  -- the new list D at s1's end
  generalize hF : (fun (x : AV) (s : S) => (match asgT t x false s with
        | none => .stuck
        | some s => (evC C cs s).bind fun k s => if k then (ev C ie s).bind fun y s => .ok (some y.1) ((s.esc y.2).wipe (own.map (·.2))) else .ok none (s.wipe (own.map (·.2))) : Res (Option AV))) = F at hx
  generalize hDd : s1.heap.objs.size = D
  have hDn : s1.heap.get? D = none := by rw [← hDd]; exact Heap.get?_none_of_le (Nat.le_refl _)
  have hDs : s.heap.get? D = none := f1.kp.none hDn
  obtain ⟨fD1, fD2, _⟩ := r1.fresh
  rw [hDd] at fD1 fD2
  generalize hs2 : ({ s1 with heap := s1.heap.push { cls := .type "list", data := .seq ([] : List Value).toArray } } : Shared) = s2
  have h2 : s2.heap = s1.heap.push { cls := .type "list", data := .seq ([] : List Value).toArray } := by rw [← hs2]
  have k12 : ∀ b o, s1.heap.get? b = some o → s2.heap.get? b = some o := fun b o e => by rw [h2]; exact Heap.get?_push_of_some _ e
  have r2 : SR X g1 st1 s2 := by
    rw [← hs2]
    exact (r1.ext (k := s1.toks) (h' := s1.heap.push { cls := .type "list", data := .seq ([] : List Value).toArray }) (fun b o e => Heap.get?_push_of_some _ e) (Nat.le_refl _)).1
  have lD2 : LstAt s2.heap D [] := ⟨Nat.zero_le _, 0, by rw [h2, ← hDd]; exact Heap.get?_push_size _ rfl⟩
  obtain ⟨B, memb, _, _⟩ := blk_facts r2 ok
  have r3 := blk_start r2 ok
  have k23 : ∀ b o, s2.heap.get? b = some o → (blkH scope s2.heap).get? b = some o := fun b o e => pushCells_keeps _ _ _ _ (Heap.get?_push_of_some _ e)
  show codeAny _ _ (.compStart (.ListComp elt [⟨tg, iter, ifs, 0⟩] scope pos) 0 (.ref itA) (.ref D) (ceOf X scope s2.heap)) (compPost (model X.gc.P X.gc.w) X.A E use Qf (.ref D) s2.heap.objs.size) { s2 with heap := blkH scope s2.heap }
  generalize hL : s2.heap.objs.size = L
  have cL : (ceOf X scope s2.heap).locals = L := hL
  have hLn2 : s2.heap.get? L = none := by rw [← hL]; exact Heap.get?_none_of_le (Nat.le_refl _)
  have hLn : s.heap.get? L = none := by
    cases e : s1.heap.get? L with
    | none => exact f1.kp.none e
    | some o => rw [k12 L o e] at hLn2; cases hLn2
  generalize hs3 : ({ s2 with heap := blkH scope s2.heap } : Shared) = s3 at r3 ⊢
  have h3 : s3.heap = blkH scope s2.heap := by rw [← hs3]
  have k13 : ∀ b o, s1.heap.get? b = some o → s3.heap.get? b = some o := fun b o e => by rw [h3]; exact k23 b o (k12 b o e)
  have pg := hg s2.heap
  have pt := ht s2.heap
  have pe := he s2.heap
  -- from the start
  have b3 : BlkE X (own.map (·.2)) g st s g1 (st1.wipe (own.map (·.2))) s3 := by
    refine ⟨by rw [← hs3, ← hs2]; exact f1.os, ⟨fun b o e n f => k13 b o (f1.kp.keep b o e n f), fun b o e n => let ⟨sl, e1⟩ := f1.kp.slot b o e n; ⟨sl, k13 b _ e1⟩, fun b o e => let ⟨o1, e1⟩ := f1.kp.there b o e; ⟨o1, k13 b o1 e1⟩⟩, f1.fz, fun b e => ?_, f1.th, f1.tk,
      by rw [← hs3, ← hs2]; exact f1.toks, fun j hj => ?_, fun j hj w => by rw [wipe_get, if_pos hj]; simp⟩
    · rcases f1.fzNew b e with h | h | ⟨i, v, ei, ai⟩
      · exact .inl h
      · exact .inr (.inl h)
      · refine .inr (.inr ⟨i, v, ei, ai, fun w z => ?_⟩)
        rw [wipe_get] at z
        split at z
        · cases z
        · have a1 := ai.fr r f1
          obtain ⟨u3, a3, p3, ys, us, e3, _, l, q, nf, _⟩ := r1.slot i w true z a1.vis
          have := a3.inj a1
          rw [e3] at this; cases this
          exact nf e
    · rw [wipe_get, if_neg hj]
      rcases f1.sl j with k | k | ⟨hv, v, k1, k2⟩
      · exact .inl k
      · exact .inr (.inl k)
      · obtain ⟨u0, a0, p, ys, us, rfl, rfl, l, q, _⟩ := r.slot j v true k1 hv
        obtain ⟨u2, a2, q2⟩ := r1.slot j _ false k2 hv
        have := (a0.fr r f1).inj a2
        subst this
        simp only [SlotV, Rep] at q2
        obtain ⟨p2, _, e2, hf, _⟩ := q2
        cases e2
        exact .inr (.inr ⟨hv, _, p, k1, k2, a0, hf⟩)
  have pn3 : ∀ b ∈ fp, Pn (blkX X scope (ceOf X scope s2.heap)) g1 s3 b := fun b hb => by
    obtain ⟨hb0, ⟨o, p⟩, hb2⟩ := hfp b hb
    refine ⟨⟨o, k13 b o p.obj, p.cls, p.fz, p.mu, fun z => ?_, fun y c e z => ?_, p.fr⟩, hb2⟩
    · have z : b = L := z.trans cL
      rw [z] at p
      have := k12 L o p.obj
      rw [hLn2] at this; cases this
    · rcases memb y c e with ⟨h, _⟩ | ⟨h, _⟩
      · exact p.cell y c h z
      · subst z
        have := k12 c o p.obj
        exact absurd (Nat.lt_trans (Heap.lt_size this) h) (Nat.lt_irrefl _)
  have t3 : T 0 g1 s3.heap := I.keep _ _ _ _ _ t0 ⟨fun b o _ e => k13 b o e, fun _ e => e, ⟨[], by simp⟩, fun _ _ e => e⟩ fun b _ o e => k13 b o e
  have lD3 : LstAt s3.heap D [] := lD2.mono fun o e => by rw [h3]; exact k23 D o e
  have Dfr : D ∉ L2.frs X.stack := fun z => some_ne (r1.frIn z) hDn
  have hLD : L ≠ D := fun z => by
    obtain ⟨_, n, e⟩ := lD2
    rw [← z, hLn2] at e; cases e
  have noOwn : ∀ {g' st' s'}, BlkE X (own.map (·.2)) g st s g' st' s' → ¬ OwnA (blkX X scope (ceOf X scope s2.heap)) st' s' D := fun {g' st' s'} b o => by
    obtain ⟨i, v, _, e, _, a0⟩ := BlkE.from0 r b B o
    exact some_ne (r.ownIn ⟨i, v, e, a0⟩) hDs
  have sfp : ∀ b, (∃ o, s.heap.get? b = some o) → b ∉ fp := fun b hb z => some_ne hb (hfp b z).1
  have dfp : ∀ {g' s' acc}, DAt (blkX X scope (ceOf X scope s2.heap)) g' s' D acc → (∀ b ∈ fp, Pn (blkX X scope (ceOf X scope s2.heap)) g' s' b) → D ∉ fp := fun {g' s' acc} d pn z => by
    obtain ⟨⟨us, l, _⟩, _⟩ := d
    obtain ⟨⟨o, p⟩, _⟩ := pn D z
    exact p.cls (lst_cls l p.obj)
  have dit : ∀ {g' g'' s' s'' acc}, DAt (blkX X scope (ceOf X scope s2.heap)) g' s' D acc → (∀ b ∈ fp, Pn (blkX X scope (ceOf X scope s2.heap)) g' s' b) → ItE fp g' s' g'' s'' → DAt (blkX X scope (ceOf X scope s2.heap)) g'' s'' D acc := fun {g' g'' s' s'' acc} d pn e => by
    have hD := dfp d pn
    obtain ⟨⟨us, l, q⟩, h1, h2⟩ := d
    exact ⟨⟨us, l.mono fun o z => e.keep D o hD z, RepL.mono (e.mono fun b hb => let ⟨⟨o, p⟩, _⟩ := pn b hb; p.fz) q⟩, fun z => (e.fzNew D z).elim h1 fun z => (by rw [l.2.choose_spec] at z; cases z), by unfold Gh.mu; rw [e.th]; exact h2⟩
  have bit : ∀ {g' g'' st' s' s''}, BlkE X (own.map (·.2)) g st s g' st' s' → ItE fp g' s' g'' s'' → BlkE X (own.map (·.2)) g st s g'' st' s'' := fun {g' g'' st' s' s''} b e =>
    b.turn e.os (fun b' o h k => e.keep b' o (sfp b' h) k) e.fz e.fzNew e.th e.tk e.toks
  -- the loop's invariant
  have loop : codeAny (model X.gc.P X.gc.w) X.A (.compLoop (.ListComp elt [⟨tg, iter, ifs, 0⟩] scope pos) 0 (.ref itA) (.ref D) (ceOf X scope s2.heap)) (compPost (model X.gc.P X.gc.w) X.A E use Qf (.ref D) L) s3 := by
    refine L2.compLoop_any (fun n s' => ∃ i acc g' st', n = xs.length - i ∧ i ≤ xs.length ∧ SR (blkX X scope (ceOf X scope s2.heap)) g' st' s' ∧ BlkE X (own.map (·.2)) g st s g' st' s' ∧ (∀ j ∈ own.map (·.2), st'.get j = none) ∧
      T i g' s'.heap ∧ (∀ b ∈ fp, Pn (blkX X scope (ceOf X scope s2.heap)) g' s' b) ∧ DAt (blkX X scope (ceOf X scope s2.heap)) g' s' D acc ∧ KR (lcI F (xs.drop i) acc st') fin) ?_ xs.length
      ⟨0, [], g1, st1.wipe (own.map (·.2)), rfl, Nat.zero_le _, r3, b3, fun j hj => by rw [wipe_get, if_pos hj], t3, pn3, ⟨⟨[], lD3, RepL.nil⟩, fD1, fD2⟩, by rw [List.drop_zero]; exact hx⟩
    rintro n s4 ⟨i, acc, g4, st4, rfl, hil, r4, b4, w4, t4, pn4, d4, h4⟩
    by_cases hlt : i < xs.length
    · have hxi : xs[i]? = some xs[i] := by simp [hlt]
      have hd : xs.drop i = xs[i] :: xs.drop (i + 1) := List.drop_eq_getElem_cons hlt
      rw [hd] at h4
      generalize xs[i] = x at hxi h4
      rw [lcI] at h4
      refine L2.thn (I.item (blkX X scope (ceOf X scope s2.heap)) rfl i x g4 st4 s4 _ _ hxi r4 t4 pn4 (fun g5 s5 u r5 e5 q5 t5 => ?_)) fun rr s3' hh => by
        obtain ⟨u, hr, h3'⟩ := hh
        subst hr
        exact h3'
      have b5 := bit b4 e5
      have d5 := dit d4 pn4 e5
      have pn5 : ∀ b ∈ fp, Pn (blkX X scope (ceOf X scope s2.heap)) g5 s5 b := fun b hb => (pn4 b hb).it e5 (I.obj _ _ _ t5 b hb)
      have hk : KR (F x st4) fun o st' => match o with
          | some y => acc.length < LIM ∧ KR (lcI F (xs.drop (i + 1)) (acc ++ [y]) st') fin
          | none => KR (lcI F (xs.drop (i + 1)) acc st') fin := by
        cases e : F x st4 with
        | stuck => rw [e] at h4; exact h4.elim
        | exc x s => rw [e] at h4; exact h4.elim
        | ok o st' =>
          rw [e] at h4
          cases o with
          | none => exact h4
          | some y =>
            dsimp only at h4
            by_cases hz : acc.length < LIM
            · rw [if_pos hz] at h4; exact ⟨hz, h4⟩
            · rw [if_neg hz] at h4; exact h4.elim
      have hFx : F x st4 = (match asgT t x false st4 with
        | none => .stuck
        | some s => (evC C cs s).bind fun k s => if k then (ev C ie s).bind fun y s => .ok (some y.1) ((s.esc y.2).wipe (own.map (·.2))) else .ok none (s.wipe (own.map (·.2)))) := by rw [← hF]
      rw [hFx] at hk
      cases ea : asgT t x false st4 with
      | none => rw [ea] at hk; exact hk.elim
      | some st6 =>
        rw [ea] at hk
        dsimp only at hk
        simp only [KR_bind] at hk
        obtain ⟨ag1, ag2⟩ := asgT_get ea
        refine pg.run g5 st4 s5 x u st6 _ _ r5 q5 ea fun s6 r6 f6 k6 => ?_
        have notC : ∀ b, (∃ o, s.heap.get? b = some o) → b ≠ (ceOf X scope s2.heap).locals ∧ ∀ i ∈ tgS t, ∀ y c, X.N[i]? = some y → (ceOf X scope s2.heap).cells.lookup y = some c → c ≠ b := fun b hb => by
          refine ⟨fun z => some_ne hb (by rw [z, cL]; exact hLn), fun i hi y c hN hc z => ?_⟩
          rcases memb y c hc with ⟨_, _, h⟩ | ⟨h, _⟩
          · exact hfr i hi y hN h
          · subst z
            obtain ⟨o, eo⟩ := hb
            obtain ⟨o1, e1⟩ := b3.kp.there c o eo
            obtain ⟨o2, e2⟩ := f1.kp.there c o eo
            exact absurd (Nat.lt_trans (Heap.lt_size (k12 c o2 e2)) h) (Nat.lt_irrefl _)
        have b6 : BlkE X (own.map (·.2)) g st s g5 st6 s6 := b5.heap f6.os (fun b o h e => k6 b o e (notC b h).1 (notC b h).2) rfl rfl (fun _ _ e => e) f6.toks (fun j hj => ag1 j fun z => hj (hown j z)) fun j hj w => by
          by_cases hjt : j ∈ tgS t
          · exact ag2 j hjt w (b5.ow j hj w)
          · rw [ag1 j hjt]; exact b5.ow j hj w
        have d6 : DAt (blkX X scope (ceOf X scope s2.heap)) g5 s6 D acc := by
          obtain ⟨⟨us, l, q⟩, h1, h2⟩ := d5
          refine ⟨⟨us, l.mono fun o z => k6 D o z (fun y => hLD (by rw [y, ← cL]; rfl)) fun i hi y c _ hc y2 => ?_, RepL.mono f6.mono q⟩, h1, h2⟩
          obtain ⟨v, o', e1, dd⟩ := r5.cell y c hc
          obtain ⟨_, n, e⟩ := l
          rw [y2, e] at e1; cases e1; cases dd
        have pn6 : ∀ b ∈ fp, Pn (blkX X scope (ceOf X scope s2.heap)) g5 s6 b := fun b hb => (pn5 b hb).toSt f6
        have t6 : T (i + 1) g5 s6.heap := I.keep _ _ _ _ _ t5 f6.mono fun b hb o e => by
          obtain ⟨⟨o', p⟩, _⟩ := pn5 b hb
          rw [p.obj] at e; cases e
          exact (f6.pin b _ p).obj
        refine pt.run g5 st6 s6 _ _ r6 (hk.mono fun k st7 h7 g7 s7 r7 f7 => ?_)
        have b7 := b6.fr r B r6 f7 r7
        have d7 := d6.fr r6 f7 (noOwn b6) Dfr
        have pn7 : ∀ b ∈ fp, Pn (blkX X scope (ceOf X scope s2.heap)) g7 s7 b := fun b hb => let ⟨⟨o, p⟩, h⟩ := pn6 b hb; ⟨⟨o, f7.pin r6 p⟩, h⟩
        have t7 : T (i + 1) g7 s7.heap := I.keep _ _ _ _ _ t6 (f7.mono r6) fun b hb o e => by
          obtain ⟨⟨o', p⟩, _⟩ := pn6 b hb
          rw [p.obj] at e; cases e
          exact (f7.pin r6 p).obj
        cases k with
        | false =>
          simp only [Bool.false_eq_true, if_false] at h7 ⊢
          exact ⟨xs.length - (i + 1), by omega, i + 1, acc, g7, _, rfl, hlt, r7.wiped _, b7.wiped, fun j hj => by rw [wipe_get, if_pos hj], t7, pn7, d7, h7⟩
        | true =>
          simp only [if_true] at h7 ⊢
          simp only [KR_bind] at h7
          refine pe.run g7 st7 s7 _ _ r7 (h7.mono fun y st8 h8 g8 s8 w r8 f8 t8 => ?_)
          obtain ⟨g9, r9, f9, q9, _⟩ := esc f8 r8 t8
          obtain ⟨hz, h8⟩ := h8
          have b9 := b7.fr r B r7 f9 r9
          have d9 := d7.fr r7 f9 (noOwn b7) Dfr
          have pn9 : ∀ b ∈ fp, Pn (blkX X scope (ceOf X scope s2.heap)) g9 s8 b := fun b hb => let ⟨⟨o, p⟩, h⟩ := pn7 b hb; ⟨⟨o, f9.pin r7 p⟩, h⟩
          have t9 : T (i + 1) g9 s8.heap := I.keep _ _ _ _ _ t7 (f9.mono r7) fun b hb o e => by
            obtain ⟨⟨o', p⟩, _⟩ := pn7 b hb
            rw [p.obj] at e; cases e
            exact (f9.pin r7 p).obj
          have hDfp := dfp d9 pn9
          obtain ⟨⟨us, l, q⟩, hd1, hd2⟩ := d9
          obtain ⟨nn, ho⟩ := lst_eq l
          have hzu : us.length < LIM := by rw [q.length]; exact hz
          refine append_at ho (fun h' hs' ho' => ?_) (by rw [List.size_toArray, LIM_eq]; exact l.1)
          have kD : ∀ b o, b ≠ D → s8.heap.get? b = some o → h'.get? b = some o := fun b o n e => (hs'.2 b n).trans e
          have l10 : LstAt h' D (us ++ [w]) := ⟨by rw [List.length_append]; exact hzu, nn + 1, by rw [ho']; simp⟩
          have m10 : GMono g9 g9 s8.heap h' := ⟨fun b o f e => kD b o (fun z => hd1 (z ▸ f)) e, fun _ e => e, ⟨[], by simp⟩, fun _ _ e => e⟩
          have nbD : NB (blkX X scope (ceOf X scope s2.heap)) g9 (st8.esc y.2) s8 D := by
            refine ⟨hd1, hd2, fun z => hLD (by rw [z, ← cL]; rfl), fun y c hc z => ?_, Dfr, noOwn b9, r.h0none hDs⟩
            obtain ⟨v, o', e1, dd⟩ := r9.cell y c hc
            rw [z, ho] at e1; cases e1; cases dd
          have r10 := r9.keepBut (fp := [D]) (h' := h') (k := s8.toks) (fun b hb => by rw [List.mem_singleton.mp hb]; exact nbD) (fun b o n e => kD b o (by simpa using n) e) (Nat.le_refl _)
          have b10 : BlkE X (own.map (·.2)) g st s g9 (st8.esc y.2) { s8 with heap := h' } := b9.heap rfl (fun b o h e => kD b o (fun z => some_ne h (z ▸ hDs)) e) rfl rfl (fun _ _ e => e) (Nat.le_refl _) (fun _ _ => rfl) b9.ow
          refine ⟨xs.length - (i + 1), by omega, i + 1, acc ++ [y.1], g9, _, rfl, hlt, r10.wiped _, b10.wiped, fun j hj => by rw [wipe_get, if_pos hj], ?_, fun b hb => ?_, ⟨⟨us ++ [w], l10, (RepL.mono m10 q).app (RepL.one (Rep.mono m10 q9))⟩, hd1, hd2⟩, h8⟩
          · exact I.keep _ _ _ _ _ t9 m10 fun b hb o e => kD b o (fun z => hDfp (z ▸ hb)) e
          · obtain ⟨⟨o, p⟩, h⟩ := pn9 b hb
            exact ⟨⟨o, kD b o (fun z => hDfp (z ▸ hb)) p.obj, p.cls, p.fz, p.mu, p.loc, p.cell, p.fr⟩, h⟩
    · have hi' : i = xs.length := by omega
      subst hi'
      rw [List.drop_length, lcI] at h4
      refine L2.thn (I.done (blkX X scope (ceOf X scope s2.heap)) rfl g4 st4 s4 _ _ r4 t4 pn4 (fun s5 r5 e5 => ?_)) fun rr s3' hh => by
        obtain ⟨hr, h3'⟩ := hh
        subst hr
        exact h3'
      have b5 := bit b4 e5
      obtain ⟨⟨us, l5, q5⟩, nf5, nm5⟩ := dit d4 pn4 e5
      obtain ⟨r6, f6⟩ := b5.out r B r5 w4
      have ns5 : ∃ m, s5.heap.Ns L m := by rw [← cL]; exact r5.ns
      refine hRR acc D L g4 st4 s5 h4 ⟨r6, f6, ⟨D, acc, us, rfl, rfl, l5, q5, nf5, nm5, r.h0none hDs, hDs, fun o => some_ne (r.ownIn (f6.own _ o)) hDs⟩, ns5, ?_, hLn, hLD⟩
      refine ⟨by rw [← cL]; exact r5.fzL, by rw [← cL]; exact r5.muL, fun z => some_ne (z ▸ r.locIn) hLn, fun x c e z => some_ne (z ▸ r.cellIn e) hLn, fun z => some_ne (r.frIn z) hLn, fun o => some_ne (r.ownIn (f6.own _ o)) hLn, r.h0none hLn⟩
  exact codeAny_compStart_list loop (I.self X.A 0 g1 _ _ _ t3 loop)
end
end Q
end

section
set_option Elab.async false
set_option linter.all false
set_option maxRecDepth 100000
/-! Core19: comprehensions as expressions, as assigned values. -/
namespace Q
open PySem PySem.Spec PyProof.Rows PySem.Builtin
section
variable {X : Fx} {C : Oracle} {g g' g1 g2 : Gh} {st st' st1 st2 : S} {s s' s1 s2 : Shared} {u w : Value} {E : Value → Shared → Prop} {a : Addr}
variable {scope : Scope} {own : List (Str × Nat)}
theorem StE.drop {L : Addr} {h' : Heap} (f : StE X g s g1 s1) (hs : Heap.SameBut L s1.heap h') (hn : s.heap.get? L = none) (nfz : ¬ g1.fz L) : StE X g s g1 { s1 with heap := h' } := by
  have kp : ∀ b o, (∃ o0, s.heap.get? b = some o0) → s1.heap.get? b = some o → h'.get? b = some o := fun b o h e => (hs.2 b fun z => some_ne h (z ▸ hn)).trans e
  exact ⟨f.os, ⟨fun b o k e => kp b o ⟨_, e⟩ (f.mono.obj b o k e), f.mono.fz, f.mono.th, f.mono.tk⟩, fun b o h e n nf => kp b o ⟨_, e⟩ (f.keep b o h e n nf), fun b o h e n => let ⟨sl, e1⟩ := f.slot b o h e n; ⟨sl, kp b _ ⟨_, e⟩ e1⟩,
    fun b o e => let ⟨o1, e1⟩ := f.there b o e; ⟨o1, kp b o1 ⟨_, e⟩ e1⟩, f.fzNew, f.th, f.toks, fun b o p => let q := f.pin b o p; ⟨kp b o ⟨_, p.obj⟩ q.obj, q.cls, q.fz, q.mu, q.loc, q.cell, q.fr⟩⟩
theorem FrE.drop {L : Addr} {h' : Heap} (r1 : SR X g1 st1 s1) (f : FrE X g st s g1 st1 s1) (nb : NB X g1 st1 s1 L) (hs : Heap.SameBut L s1.heap h') (hn : s.heap.get? L = none) : SR X g1 st1 { s1 with heap := h' } ∧ FrE X g st s g1 st1 { s1 with heap := h' } := by
  have kp1 : ∀ b o, b ∉ [L] → s1.heap.get? b = some o → h'.get? b = some o := fun b o n e => (hs.2 b (by simpa using n)).trans e
  have kp : ∀ b o, (∃ o0, s.heap.get? b = some o0) → s1.heap.get? b = some o → h'.get? b = some o := fun b o h e => (hs.2 b fun z => some_ne h (z ▸ hn)).trans e
  have r2 := r1.keepBut (fp := [L]) (h' := h') (k := s1.toks) (fun b hb => by rw [List.mem_singleton.mp hb]; exact nb) kp1 (Nat.le_refl _)
  refine ⟨r2, ⟨f.os, ⟨fun b o e n nf => kp b o ⟨_, e⟩ (f.kp.keep b o e n nf), fun b o e n => let ⟨sl, e1⟩ := f.kp.slot b o e n; ⟨sl, kp b _ ⟨_, e⟩ e1⟩, fun b o e => let ⟨o1, e1⟩ := f.kp.there b o e; ⟨o1, kp b o1 ⟨_, e⟩ e1⟩⟩, f.fz, f.fzNew, f.th, f.tk, f.toks, fun b ⟨i, v, e, a0⟩ => ?_, f.sl⟩⟩
  obtain ⟨u0, b0, _⟩ := r1.slot i v true e a0.vis
  have kl : ∀ o, s1.heap.get? X.env.locals = some o → ∃ sl, ({ s1 with heap := h' } : Shared).heap.get? X.env.locals = some { o with slots := sl } := fun o e => ⟨o.slots, kp1 _ o (fun z => nb.loc (List.mem_singleton.mp z).symm) e⟩
  have kc : ∀ x c, X.env.cells.lookup x = some c → ∀ o, s1.heap.get? c = some o → ∃ sl, ({ s1 with heap := h' } : Shared).heap.get? c = some { o with slots := sl } := fun x c e o q => ⟨o.slots, kp1 c o (fun z => nb.cell x c e (List.mem_singleton.mp z)) q⟩
  have := (b0.keep kl kc).inj a0
  exact f.own b ⟨i, v, e, this ▸ b0⟩
theorem es_lc {elt tg iter : Expr} {ifs : List Expr} {pos : Pos} {ie it : IE} {t : ITg} {cs : List IE}
    (hi : EId X C it iter tg) (ok : L2.BlkOk X.N X.env.scope scope own) (hown : ∀ i ∈ tgS t, i ∈ own.map (·.2)) (hfr : ∀ i ∈ tgS t, ∀ y, X.N[i]? = some y → scope.names.lookup y ≠ some .free)
    (hg : ∀ h : Heap, TGd (blkX X scope (ceOf X scope h)) t tg) (ht : ∀ h : Heap, ECd (blkX X scope (ceOf X scope h)) C cs ifs) (he : ∀ h : Heap, ESd (blkX X scope (ceOf X scope h)) C ie elt)
    (hs : noSet iter = true) : ESd X C (.lc ie (own.map (·.2)) t it cs) (.ListComp elt [⟨tg, iter, ifs, 0⟩] scope pos) := ⟨fun g st s Q E r h => by
  rw [ev] at h; simp only [KR_bind] at h
  rw [eval_ListComp]
  refine lc_core (use := none) (fin := fun acc st' => EQ X g st s Q (.lst acc, .fr) st') r hi ok hown hfr hg ht he hs h fun acc D L g' st' s' hq e => ?_
  obtain ⟨m, hns⟩ := e.ns
  refine ⟨m, hns, fun h' hsb => ?_⟩
  obtain ⟨r2, f2⟩ := e.fr.drop e.sr e.nb hsb e.new
  refine hq g' _ _ r2 f2 ?_
  obtain ⟨D', xs, us, e1, e2, l, q, nf, nm, hlo, hn, no⟩ := e.val
  cases e1
  have kD : ∀ o, s'.heap.get? D = some o → h'.get? D = some o := fun o k => (hsb.2 D fun z => e.ne z.symm).trans k
  have m2 : GMono g' g' s'.heap h' := ⟨fun b o f k => (hsb.2 b fun z => e.nb.fz (z ▸ f)).trans k, fun _ k => k, ⟨[], by simp⟩, fun _ _ k => k⟩
  exact ⟨D, xs, us, rfl, e2, l.mono kD, RepL.mono m2 q, nf, nm, hlo, hn, fun o => some_ne (r.ownIn (f2.own _ o)) hn⟩⟩
theorem s_asgLc {i : Nat} {y : Str} {py : Pos} {elt tg iter : Expr} {ifs : List Expr} {pos spos : Pos} {ie it : IE} {t : ITg} {cs : List IE} (hN : X.N[i]? = some y) (hy : Own X y)
    (hsw : swapsWith (.ListComp elt [⟨tg, iter, ifs, 0⟩] scope pos) (some (.Name y py)) spos.line X.env = pure true)
    (hi : EId X C it iter tg) (ok : L2.BlkOk X.N X.env.scope scope own) (hown : ∀ i ∈ tgS t, i ∈ own.map (·.2)) (hfr : ∀ i ∈ tgS t, ∀ y, X.N[i]? = some y → scope.names.lookup y ≠ some .free)
    (hg : ∀ h : Heap, TGd (blkX X scope (ceOf X scope h)) t tg) (ht : ∀ h : Heap, ECd (blkX X scope (ceOf X scope h)) C cs ifs) (he : ∀ h : Heap, ESd (blkX X scope (ceOf X scope h)) C ie elt)
    (hs : noSet iter = true) : S1d X C (.asg (.nm i) (.lc ie (own.map (·.2)) t it cs)) (.Assign [.Name y py] (.ListComp elt [⟨tg, iter, ifs, 0⟩] scope pos) spos) := ⟨fun g st s Q E r h => by
  rw [ex] at h; simp only [KR_bind] at h
  rw [ev] at h; simp only [KR_bind] at h
  rw [exec_Assign_Name_used _ _ _ _ hsw]
  refine wpAny_bind (wpAny_standAt (wpAny_bind ?_))
  show wpAny _ X.A (comprehension (.ListComp elt [⟨tg, iter, ifs, 0⟩] scope pos) scope X.env (firstIterPos [⟨tg, iter, ifs, 0⟩] pos) (newList []) false (eval iter X.env) (some (assign (.Name y py) X.env)) >>= fun _ => pure ()) _ _ s
  refine wpAny_bind (L2.thn (lc_core (use := some (assign (.Name y py) X.env)) (Qf := fun _ s' => Q .next s') (fin := fun acc st' => SQ X g s Q .nx (st'.put i (.lst acc) true)) r hi ok hown hfr hg ht he hs (h.mono fun xs st1 h => h.mono fun ys st2 h => h) fun acc D L g' st' s' hq e => ?_) fun _ s' hq => wpAny_pure (wpAny_pure hq))
  show wpAny _ _ (assign (.Name y py) X.env (.ref D)) _ _ _
  obtain ⟨D', xs, us, e1, e2, l, q, nf, nm, hlo, hn, no⟩ := e.val
  cases e1
  refine wpAny_assign_Name (store_ok2 e.sr hN hy (own := true) ⟨D, xs, us, rfl, e2, l, q, nf, nm, hlo⟩ (fun _ j w hj ej aj => no ⟨j, w, ej, aj⟩) fun s2 r2 f2 ⟨c, hsc, hc⟩ => ?_)
  obtain ⟨m, hns⟩ := e.ns
  have hLc : L ≠ c := fun z => by
    rcases hc with h | h
    · exact e.nb.loc (z.trans h)
    · exact e.nb.cell y c h z.symm
  have hns2 : s2.heap.Ns L m := hns.sameBut hsc hLc
  refine ⟨m, hns2, fun h' hsb => ?_⟩
  have nb2 : NB X g' (st'.put i (.lst acc) true) s2 L := ⟨e.nb.fz, e.nb.mu, e.nb.loc, e.nb.cell, e.nb.fr, (fun o => by
    obtain ⟨us, _, n, k⟩ := own_lst r2 o
    obtain ⟨o, es, ep, k2, d, _⟩ := hns2
    rw [k] at k2; cases k2; cases d), e.nb.h0⟩
  have r3 := r2.keepBut (fp := [L]) (h' := h') (k := s2.toks) (fun b hb => by rw [List.mem_singleton.mp hb]; exact nb2) (fun b o n k => (hsb.2 b (by simpa using n)).trans k) (Nat.le_refl _)
  exact hq g' _ r3 (((e.fr.toSt r).trans f2).drop hsb e.new e.nb.fz)⟩
end
end Q
end

section
set_option Elab.async false
set_option linter.all false
set_option maxRecDepth 100000
/-! Core20: match. -/
namespace Q
open PySem PySem.Spec PyProof.Rows PySem.Builtin
mutual
/-- a pattern's text -/
def okPat (N : List Str) : IPat → Pattern → Bool
  | .any, .MatchAs none none _ => true
  | .cap i, .MatchAs none (some x) _ => N[i]? == some x
  | .val t, .MatchValue (.Constant (.str x) _ _) _ => (x == tx t) && decide (t.length ≤ LIM) && t.all (fun c => decide (c < 1114112))
  | .seq ps, .MatchSequence qs _ => okPats N ps qs && (qs.all fun p => p.isWildcard || (p.isStar && p.names.isEmpty)) == false
  | _, _ => false
def okPats (N : List Str) : List IPat → List Pattern → Bool
  | [], [] => true
  | p :: ps, q :: qs => okPat N p q && okPats N ps qs
  | _, _ => false
end
section
variable {X : Fx} {C : Oracle} {g g' g1 g2 : Gh} {st st' st1 st2 : S} {s s' s1 s2 : Shared} {u w : Value} {a : Addr}
theorem star_of : ∀ {N : List Str} {ip : IPat} {p : Pattern}, okPat N ip p = true → p.isStar = false
  | N, ip, p, h => by
    cases p with
    | MatchStar _ _ => cases ip <;> cases h
    | _ => rfl
theorem stars_of : ∀ {N : List Str} {ips : List IPat} {ps : List Pattern}, okPats N ips ps = true → ps.findIdx? (·.isStar) = none ∧ ps.length = ips.length
  | _, [], [], _ => ⟨rfl, rfl⟩
  | N, i :: is, p :: ps, h => by
    simp only [okPats, Bool.and_eq_true] at h
    obtain ⟨h1, h2⟩ := stars_of h.2
    refine ⟨?_, by rw [List.length_cons, List.length_cons, h2]⟩
    rw [List.findIdx?_cons, star_of h.1, h1]; rfl
  | _, [], _ :: _, h => by simp [okPats] at h
  | _, _ :: _, [], h => by simp [okPats] at h
/-- the bindings -/
def BindR (X : Fx) (g : Gh) (h : Heap) : List (Nat × AV) → List (Str × Value) → Prop
  | [], l => l = []
  | p :: r, l => ∃ x u q, l = (x, u) :: q ∧ X.N[p.1]? = some x ∧ Rep X.gc g h p.2 u ∧ BindR X g h r q
theorem BindR.mono (m : GMono g g' s.heap s'.heap) : ∀ {bs : List (Nat × AV)} {l : List (Str × Value)}, BindR X g s.heap bs l → BindR X g' s'.heap bs l
  | [], _, h => h
  | p :: r, _, ⟨x, u, q, e, h1, h2, h3⟩ => ⟨x, u, q, e, h1, Rep.mono m h2, BindR.mono m h3⟩
theorem BindR.app {h : Heap} : ∀ {bs cs : List (Nat × AV)} {l k : List (Str × Value)}, BindR X g h bs l → BindR X g h cs k → BindR X g h (bs ++ cs) (l ++ k)
  | [], _, _, _, e, h2 => by
    have e : _ = [] := e
    subst e; exact h2
  | p :: r, _, _, _, ⟨x, u, q, e, h1, h2, h3⟩, h4 => by
    subst e
    exact ⟨x, u, _, rfl, h1, h2, BindR.app h3 h4⟩
/-- what is wanted behind a pattern -/
def PQ (X : Fx) (g : Gh) (st : S) (s : Shared) (Q : Option (List (Str × Value)) → Shared → Prop) (r : Option (List (Nat × AV))) : Prop :=
  ∀ g' s', SR X g' st s' → FrE X g st s g' st s' → match r with
    | none => Q none s'
    | some bs => ∀ l, BindR X g' s'.heap bs l → Q (some l) s'
theorem PQ.from {Q : Option (List (Str × Value)) → Shared → Prop} {r : Option (List (Nat × AV))} (f : FrE X g st s g' st s') (h : PQ X g st s Q r) : PQ X g' st s' Q r := fun g2 s2 r2 f2 => h g2 s2 r2 (f.trans f2)
theorem seq_no {ps : List Pattern} {pos : Pos} {T : String} {E : Value → Shared → Prop} {Q : Option (List (Str × Value)) → Shared → Prop} (ht : s.TypeIs u T) (hf : flagOfType true (.type T) = pure false) (h : Q none s)
    (hstar : ps.findIdx? (·.isStar) = none) (hwild : (ps.all fun p => p.isWildcard || (p.isStar && p.names.isEmpty)) = false) : wpAny (model X.gc.P X.gc.w) X.A (matchPattern (.MatchSequence ps pos) X.env u) Q E s := by
  refine wpAny_matchPattern_Sequence (wpAny_collectionFlag ht hf ?_) hstar hwild
  rw [if_neg Bool.false_ne_true]
  exact h
mutual
theorem pat_ok : ∀ (ip : IPat) (p : Pattern) (g : Gh) (s : Shared) (v : AV) (u : Value) (r : Option (List (Nat × AV))) (Q : Option (List (Str × Value)) → Shared → Prop) (E : Value → Shared → Prop),
    okPat X.N ip p = true → SR X g st s → Rep X.gc g s.heap v u → patB ip v = some r → PQ X g st s Q r → wpAny (model X.gc.P X.gc.w) X.A (matchPattern p X.env u) Q E s := by
  intro ip p g s v u r Q E hp sr q e h
  match ip, p, hp with
  | .any, .MatchAs none none _, _ =>
    rw [patB] at e
    cases e
    exact wpAny_matchPattern_Capture (h g s sr FrE.refl [] rfl)
  | .cap i, .MatchAs none (some x) _, hp =>
    rw [patB] at e
    cases e
    have hx : X.N[i]? = some x := by simpa [okPat] using hp
    exact wpAny_matchPattern_Capture (h g s sr FrE.refl [(x, u)] ⟨x, u, [], rfl, hx, q, rfl⟩)
  | .val t, .MatchValue (.Constant (.str x) _ _) _, hp =>
    rw [patB] at e
    obtain ⟨b, e1, e2⟩ := Option.map_eq_some_iff.mp e
    simp only [okPat, Bool.and_eq_true, beq_iff_eq, decide_eq_true_eq, List.all_eq_true] at hp
    obtain ⟨⟨hx, h1⟩, h2⟩ := hp
    subst hx
    have ok : TxOk t := ⟨h1, fun c hc => by simpa using h2 c hc⟩
    refine wpAny_matchPattern_Value (Calls.Constant_str ?_)
    obtain ⟨r1, f1, q1⟩ := sr.newStr ok
    refine eq_ok r1 ((RepB.of sr q).keep sr f1) (RepB.of r1 q1) e1 (wpAny_truthy_bool ?_)
    cases b with
    | true =>
      have e2 : some [] = r := e2
      subst e2
      rw [if_pos rfl]
      exact h _ _ r1 f1 [] rfl
    | false =>
      have e2 : none = r := e2
      subst e2
      rw [if_neg Bool.false_ne_true]
      exact h _ _ r1 f1
  | .seq ips, .MatchSequence ps _, hp =>
    simp only [okPat, Bool.and_eq_true, beq_iff_eq] at hp
    obtain ⟨hps, hwild⟩ := hp
    obtain ⟨hstar, hlen⟩ := stars_of hps
    cases v with
    | tup xs =>
      rw [patB] at e
      simp only [Rep] at q
      obtain ⟨p, us, rfl, hf, l, q⟩ := q
      have hul := q.length
      have hfit : (us.toArray.size : Int) < 2 ^ 63 := by rw [List.size_toArray]; exact small_LIM l.1
      obtain ⟨r1, f1⟩ := sr.tok (k := s.toks + 1 + 1) (by omega)
      split at e
      · rename_i hl
        refine matchSeq_tuple_hit l.2.1 hfit (by rw [List.size_toArray, hul, hl, hlen]) ?_ hstar hwild
        rw [show ps.length = us.toArray.size by rw [List.size_toArray, hul, hl, hlen]]
        refine unpackItems_tuple sr.ok.hd (s := { s with toks := s.toks + 1 + 1 }) l.2.1 fun h' hx => ?_
        obtain ⟨r2, f2⟩ := r1.ext (k := s.toks + 1 + 1) (h' := h') (fun b o e => hx b o (Nat.ne_of_lt (Heap.lt_size e)) e) (Nat.le_refl _)
        have f12 := f1.trans f2
        exact pats_ok ips ps g _ xs us r Q E hps r2 (RepL.mono (f12.mono sr) q) e (h.from f12)
      · rename_i hl
        cases e
        refine matchSeq_tuple_miss l.2.1 hfit (by rw [List.size_toArray, hul, hlen]; exact hl) (h g _ r1 f1) hstar hwild
    | str x =>
      rw [patB] at e; cases e
      simp only [Rep] at q
      obtain ⟨t, rfl, _⟩ := q
      exact seq_no (typeIs_str _ _ _) flag_seq_str (h g s sr FrE.refl) hstar hwild
    | int i =>
      rw [patB] at e; cases e
      simp only [Rep] at q
      obtain ⟨t, rfl⟩ := q
      exact seq_no (typeIs_int _ _ _) flag_seq_int (h g s sr FrE.refl) hstar hwild
    | bl b =>
      rw [patB] at e; cases e
      simp only [Rep] at q
      subst q
      exact seq_no (T := "bool") rfl flag_seq_bool (h g s sr FrE.refl) hstar hwild
    | non =>
      rw [patB] at e; cases e
      simp only [Rep] at q
      subst q
      exact seq_no (T := "NoneType") rfl flag_seq_None (h g s sr FrE.refl) hstar hwild
    | _ => rw [patB] at e <;> first | cases e | (intros; contradiction)
theorem pats_ok : ∀ (ips : List IPat) (ps : List Pattern) (g : Gh) (s : Shared) (vs : List AV) (us : List Value) (r : Option (List (Nat × AV))) (Q : Option (List (Str × Value)) → Shared → Prop) (E : Value → Shared → Prop),
    okPats X.N ips ps = true → SR X g st s → RepL X.gc g s.heap vs us → patsB ips vs = some r → PQ X g st s Q r → wpAny (model X.gc.P X.gc.w) X.A (matchEach ps X.env us) Q E s := by
  intro ips ps g s vs us r Q E hp sr q e h
  match ips, ps, vs, hp with
  | [], [], [], _ =>
    rw [patsB] at e
    cases e
    have e1 : us = [] := by simpa only [RepL] using q
    subst e1
    exact wpAny_matchEach_nil (h g s sr FrE.refl [] rfl)
  | ip :: ips, p :: ps, v :: vs, hp =>
    simp only [okPats, Bool.and_eq_true] at hp
    simp only [RepL] at q
    obtain ⟨u, us, rfl, q1, q2⟩ := q
    rw [patsB] at e
    refine wpAny_matchEach_cons ?_ (star_of hp.1)
    cases e1 : patB ip v with
    | none => rw [e1] at e; cases e
    | some o =>
      rw [e1] at e
      refine pat_ok ip p g s v u o _ E hp.1 sr q1 e1 fun g1 s1 r1 f1 => ?_
      cases o with
      | none =>
        cases e
        exact h g1 s1 r1 f1
      | some l =>
        intro k hk
        cases e2 : patsB ips vs with
        | none => rw [e2] at e; cases e
        | some o2 =>
          rw [e2] at e
          refine pats_ok ips ps g1 s1 vs us o2 _ E hp.2 r1 (RepL.mono (f1.mono sr) q2) e2 fun g2 s2 r2 f2 => ?_
          cases o2 with
          | none =>
            cases e
            exact h g2 s2 r2 (f1.trans f2)
          | some m =>
            cases e
            intro k2 hk2
            exact h g2 s2 r2 (f1.trans f2) (k ++ k2) ((BindR.mono (f2.mono r1) hk).app hk2)
  | [], [], _ :: _, _ => rw [patsB] at e <;> first | cases e | (intros; contradiction)
  | _ :: _, _ :: _, [], _ => rw [patsB] at e <;> first | cases e | (intros; contradiction)
  | [], _ :: _, _, hp => simp [okPats] at hp
  | _ :: _, [], _, hp => simp [okPats] at hp
end
end
end Q
end

section
set_option Elab.async false
set_option linter.all false
set_option maxRecDepth 100000
/-! Core21: the match statement. -/
namespace Q
open PySem PySem.Spec PyProof.Rows PySem.Builtin
mutual
def capS : IPat → List Nat
  | .cap i => [i]
  | .seq ps => capsS ps
  | _ => []
def capsS : List IPat → List Nat
  | [] => []
  | p :: ps => capS p ++ capsS ps
end
section
variable {X : Fx} {C : Oracle} {g g' g1 g2 : Gh} {st st' st1 st2 : S} {s s' s1 s2 : Shared} {u w : Value} {a : Addr} {pos : Pos}
mutual
theorem caps_of : ∀ (p : IPat) (v : AV) (l : List (Nat × AV)), patB p v = some (some l) → ∀ q ∈ l, q.1 ∈ capS p := by
  intro p v l e q hq
  match p with
  | .any => rw [patB] at e; cases e; cases hq
  | .cap i => rw [patB] at e; cases e; rw [List.mem_singleton.mp hq]; simp [capS]
  | .val t =>
    rw [patB] at e
    obtain ⟨b, _, e2⟩ := Option.map_eq_some_iff.mp e
    cases b with
    | true => cases e2; cases hq
    | false => cases e2
  | .seq ps =>
    cases v with
    | tup xs =>
      rw [patB] at e
      split at e
      · exact capss_of ps xs l e q hq
      · cases e
    | _ => first | (rw [patB] at e; cases e; done) | (rw [patB] at e <;> first | cases e | (intros; contradiction))
theorem capss_of : ∀ (ps : List IPat) (vs : List AV) (l : List (Nat × AV)), patsB ps vs = some (some l) → ∀ q ∈ l, q.1 ∈ capsS ps := by
  intro ps vs l e q hq
  match ps, vs with
  | [], [] => rw [patsB] at e; cases e; cases hq
  | p :: ps, x :: xs =>
    rw [patsB] at e
    cases e1 : patB p x with
    | none => rw [e1] at e; cases e
    | some o =>
      rw [e1] at e
      cases o with
      | none => cases e
      | some k =>
        cases e2 : patsB ps xs with
        | none => rw [e2] at e; cases e
        | some o2 =>
          rw [e2] at e
          cases o2 with
          | none => cases e
          | some m =>
            cases e
            rcases List.mem_append.mp hq with h | h
            · exact List.mem_append_left _ (caps_of p x k e1 q h)
            · exact List.mem_append_right _ (capss_of ps xs m e2 q h)
  | [], _ :: _ => rw [patsB] at e <;> first | cases e | (intros; contradiction)
  | _ :: _, [] => rw [patsB] at e <;> first | cases e | (intros; contradiction)
end
theorem bind_ok : ∀ (bs : List (Nat × AV)) (l : List (Str × Value)) (g : Gh) (st : S) (s : Shared) (Q : Unit → Shared → Prop) (E : Value → Shared → Prop), SR X g st s → BindR X g s.heap bs l → (∀ p ∈ bs, ∀ x, X.N[p.1]? = some x → Own X x) →
    (∀ s', SR X g (putB bs st) s' → StE X g s g s' → Q () s') → wpAny (model X.gc.P X.gc.w) X.A (assignInOrder (l.map fun (n, _) => bindName X.env n) (l.map (·.2))) Q E s := by
  intro bs
  induction bs with
  | nil =>
    intro l g st s Q E r b ho h
    have b : l = [] := b
    subst b
    exact wpAny_assignInOrder_none (h s r StE.refl)
  | cons p bs ih =>
    intro l g st s Q E r b ho h
    obtain ⟨x, u, q, rfl, hx, ru, b⟩ := b
    refine wpAny_assignInOrder_more (wpAny_bindName (store_ok r hx (ho p List.mem_cons_self x hx) (own := false) ru (fun z => nomatch z) fun s1 r1 f1 => ?_))
    exact ih q g _ s1 Q E r1 (BindR.mono f1.mono b) (fun p' hp' => ho p' (List.mem_cons_of_mem _ hp')) fun s2 r2 f2 => h s2 r2 (f1.trans f2)
/-- the cases' texts -/
inductive CaseOk (X : Fx) (C : Oracle) : List IPat → List (List IS) → List MatchCase → Prop where
  | nil : CaseOk X C [] [] []
  | cons {p : IPat} {q : Pattern} {b : List IS} {ss : List Stmt} {ps : List IPat} {bs : List (List IS)} {cs : List MatchCase} : okPat X.N p q = true → (∀ i ∈ capS p, ∀ x, X.N[i]? = some x → Own X x) → SSd X C b ss → CaseOk X C ps bs cs → CaseOk X C (p :: ps) (b :: bs) (⟨q, none, ss⟩ :: cs)
theorem cases_ok {ps : List IPat} {bs : List (List IS)} {cs : List MatchCase} (c : CaseOk X C ps bs cs) : ∀ (fst : Bool) (g : Gh) (st : S) (s : Shared) (v : AV) (u : Value) (Q : Flow → Shared → Prop) (E : Value → Shared → Prop), SR X g st s → Rep X.gc g s.heap v u → KR (exM C ps bs v st) (SQ X g s Q) →
    wpAny (model X.gc.P X.gc.w) X.A (matchCases cs X.env u fst) Q E s := by
  induction c with
  | nil =>
    intro fst g st s v u Q E r q h
    rw [exM] at h
    exact wpAny_matchCases_nil (h g s r StE.refl)
  | @cons p pt b ss ps bs cs hp hc hb _ ih =>
    intro fst g st s v u Q E r q h
    rw [exM] at h
    refine wpAny_matchCases_cons ?_
    cases e : patB p v with
    | none => rw [e] at h; exact h.elim
    | some o =>
      rw [e] at h
      refine pat_ok p pt g s v u o _ E hp r q e fun g1 s1 r1 f1 => ?_
      cases o with
      | none => exact ih false g1 st s1 v u Q E r1 (Rep.mono (f1.mono r) q) (h.mono fun f st2 h => SQ.from (f1.toSt r) h)
      | some l =>
        intro k hk
        refine bind_ok l k g1 st s1 _ E r1 hk (fun p' hp' x hx => hc p'.1 (caps_of p v l e p' hp') x hx) fun s2 r2 f2 => ?_
        exact hb.run g1 _ s2 _ _ r2 (h.mono fun f st2 h => SQ.from ((f1.toSt r).trans f2) h)
theorem s_mtch {a : IE} {ea : Expr} {ps : List IPat} {bs : List (List IS)} {cs : List MatchCase} (ha : ESd X C a ea) (c : CaseOk X C ps bs cs) : S1d X C (.mtch a ps bs) (.Match ea cs pos) := ⟨fun g st s Q E r h => by
  rw [ex] at h; simp only [KR_bind] at h
  refine wpAny_Match (ha.run g st s _ _ r (h.mono fun x st1 h g1 s1 u r1 f1 t1 => ?_))
  obtain ⟨g2, r2, f2, q2, m2⟩ := esc f1 r1 t1
  exact cases_ok c true g2 _ s1 _ u Q E r2 q2 (h.mono fun f st2 h => SQ.from (f2.toSt r) h)⟩
end
end Q
end

section
set_option Elab.async false
set_option linter.all false
set_option maxRecDepth 100000
/-! Core22: the check that a text has an IR, and that it is enough. -/
namespace Q
open PySem PySem.Spec PyProof.Rows PySem.Builtin

/-- what the check knows of a block: its slots' names, the names' kinds, whose cells are its own, the defs that may be called -/
structure CB where
  N : List Str
  ns : List (Str × NameKind)
  fn : Str → Bool
  fs : String → Bool
  gs : List (Str × Int)
  ps : String → String → Bool := fun _ _ => false
  ms : String → String → Bool := fun _ _ => false
  its : String → String → Bool := fun _ _ => false

def visB (B : CB) (x : Str) : Bool := (B.ns.lookup x == some .local || B.ns.lookup x == some .cell || B.ns.lookup x == some .free) && x != ("__debug__" : Str) && x != ("__classdict__" : Str)
def ownB (B : CB) (x : Str) : Bool := B.ns.lookup x == some .local || (B.fn x && B.ns.lookup x == some .cell)
def glB (B : CB) (x : Str) : Bool := B.ns.lookup x == some .globalImplicit && x != ("__debug__" : Str)
def okTx (t : Tx) : Bool := decide (t.length ≤ LIM) && t.all (fun c => decide (c < 1114112))
def okC (B : CB) : AV → Expr → Bool
  | .int i, .Constant (.int j) _ _ => i == j
  | .int i, .Name x _ => B.gs.lookup x == some i && glB B x && x != ("__name__" : Str)
  | .bl i, .Constant (.bool j) _ _ => i == j
  | .non, .Constant .none _ _ => true
  | .str t, .Constant (.str x) _ _ => x == tx t && okTx t
  | .ty n, .Name x _ => tys.contains n && x == Str.ofString n && glB B x
  | _, _ => false
def blkNs (ns : List (Str × NameKind)) (scope : Scope) : List (Str × NameKind) := scope.names.map fun (n, k) => if (k == .free && ns.lookup n == some .cell) then (n, .cell) else (n, k)
def blkB (B : CB) (scope : Scope) : CB := { B with ns := blkNs B.ns scope, fn := fun y => scope.names.lookup y == some .cell }
def ownP (N : List Str) (own : List Nat) : List (Str × Nat) := own.map fun i => ((N[i]?).getD default, i)
def okBlk (B : CB) (scope : Scope) (own : List Nat) : Bool :=
  (scope.kind == .function) && (scope.names.all fun y => scope.names.lookup y.1 == some y.2) && ((ownP B.N own).all fun p => B.N[p.2]? == some p.1) &&
  (scope.names.all fun y => y.2 != .free || B.ns.lookup y.1 == some .cell || B.ns.lookup y.1 == some .free) &&
  (scope.names.all fun y => (y.2 != .local && y.2 != .cell) || ((ownP B.N own).map (·.1)).contains y.1 || !B.N.contains y.1)
def okNm (B : CB) : List Nat → List Expr → Bool
  | [], [] => true
  | i :: is, .Name x _ :: es => B.N[i]? == some x && ownB B x && okNm B is es
  | _, _ => false
def okG (B : CB) : ITg → Expr → Bool
  | .nm i, .Name x _ => B.N[i]? == some x && ownB B x
  | .tp is, .Tuple es _ _ => okNm B is es
  | _, _ => false
def okTgs (N : List Str) (own : List Nat) (scope : Scope) (t : ITg) : Bool :=
  (tgS t).all fun i => own.contains i && (match N[i]? with | some y => scope.names.lookup y != some .free | none => true)
/-- no super() -/
def baseOk : Expr → Bool
  | .Call _ [] [] _ => false
  | _ => true
theorem base_of {o : Expr} (h : baseOk o = true) (nm : Str) (env : Env) (w : Sem Value) : attributeBase o nm env w = w := by
  cases o with
  | Call f as ks p =>
    cases as with
    | nil => cases ks <;> first | (cases h; done) | (cases f <;> rfl)
    | cons _ _ => cases f <;> rfl
  | _ => rfl

def nonC : IE → Bool
  | .c .non => true
  | _ => false
def ssetOf : Expr → Option (Str × Str × Expr)
  | .Call (.Name x _) [.Call (.Name y _) [ea] [] _] [] _ => some (x, y, ea)
  | _ => none
theorem ssetOf_some {e ea : Expr} {x y : Str} (h : ssetOf e = some (x, y, ea)) : ∃ p q p2 pos, e = .Call (.Name x p) [.Call (.Name y q) [ea] [] p2] [] pos := by
  unfold ssetOf at h
  split at h
  · cases h
    exact ⟨_, _, _, _, rfl⟩
  · cases h
def lenOf : Expr → Option (Str × Expr)
  | .Call (.Name x _) [ea] [] _ => some (x, ea)
  | _ => none
theorem lenOf_some {e ea : Expr} {x : Str} (h : lenOf e = some (x, ea)) : ∃ p pos, e = .Call (.Name x p) [ea] [] pos := by
  unfold lenOf at h
  split at h
  · cases h
    exact ⟨_, _, rfl⟩
  · cases h
def callOf : Expr → Option (Expr × List Expr)
  | .Call f (e :: es) [] _ => some (f, e :: es)
  | _ => none
theorem callOf_some {e f : Expr} {es : List Expr} (h : callOf e = some (f, es)) : ∃ e0 r pos, es = e0 :: r ∧ e = .Call f (e0 :: r) [] pos := by
  unfold callOf at h
  split at h
  · cases h
    exact ⟨_, _, _, rfl, rfl⟩
  · cases h
def zipOf : Expr → Option (Str × Expr × Expr)
  | .Call (.Name x _) [ea, eb] [] _ => some (x, ea, eb)
  | _ => none
theorem zipOf_some {e ea eb : Expr} {x : Str} (h : zipOf e = some (x, ea, eb)) : ∃ p pos, e = .Call (.Name x p) [ea, eb] [] pos := by
  unfold zipOf at h
  split at h
  · cases h
    exact ⟨_, _, rfl⟩
  · cases h
def revOf : Expr → Option Expr
  | .Subscript ea (.Slice none none (some (.UnaryOp .USub (.Constant (.int i) _ _) _)) _) _ => if i = 1 then some ea else none
  | _ => none
theorem revOf_some {e ea : Expr} (h : revOf e = some ea) : ∃ k p1 p2 p3 pos, e = .Subscript ea (.Slice none none (some (.UnaryOp .USub (.Constant (.int 1) k p1) p2)) p3) pos := by
  unfold revOf at h
  split at h
  · split at h
    · rename_i hi
      subst hi
      cases h
      exact ⟨_, _, _, _, _, rfl⟩
    · cases h
  · cases h
/-- a target that takes a pair where one is given -/
def tupTg : IE → Expr → Bool
  | .enum _, .Tuple _ _ _ => true
  | .enum _, _ => false
  | .zipi _ _ _ _, .Tuple _ _ _ => true
  | .zipi _ _ _ _, _ => false
  | _, _ => true
mutual
def okE (B : CB) : IE → Expr → Bool
  | .c v, e => okC B v e
  | .v i, .Name x _ => B.N[i]? == some x && visB B x
  | .bin o a b, .BinOp ea op eb _ => op == opOf o && okE B a ea && okE B b eb
  | .neg a, .UnaryOp .USub ea _ => okE B a ea
  | .not_ a, .UnaryOp .Not ea _ => okE B a ea
  | .cmp o a b, .Compare ea [op] [eb] _ => op == cmpOf o && !behindInMarks op eb && okE B a ea && okE B b eb
  | .chain o p a b d, .Compare ea [op, op'] [eb, ed] _ => op == cmpOf o && op' == cmpOf p && !lastMarks [op, op'] [eb, ed] && okE B a ea && okE B b eb && okE B d ed
  | .and_ is, .BoolOp .And es _ => okL B is es && !is.isEmpty
  | .or_ is, .BoolOp .Or es _ => okL B is es && !is.isEmpty
  | .ife t a b, .IfExp et ea eb _ => okE B t et && okE B a ea && okE B b eb
  | .tup is, .Tuple es _ _ => okL B is es && es.all noStar
  | .lst is, .List es _ => okL B is es && es.all noStar
  | .call f is, .Call (.Name x _) es [] _ => x == Str.ofString f && B.fs f && glB B x && okL B is es && es.all noStar
  | .bcall f is, .Call (.Name x _) (e :: es) [] _ => x == Str.ofString (bfN f) && glB B x && okL B is (e :: es) && (e :: es).all noStar
  | .meth o m is, .Call (.Attribute eo nm apos) (e :: es) [] pos => nm == Str.ofString (bmName m) && baseOk eo && decide (es.length < 20) && apos.endLine == pos.line && okE B o eo && okL B is (e :: es) && (e :: es).all noStar
  | .ix a b, .Subscript ea eb _ => noSlice eb && okE B a ea && okE B b eb
  | .sl a lo hi, .Subscript ea (.Slice elo ehi none _) _ => okE B a ea && (match elo with | some e => okE B lo e | none => nonC lo) && (match ehi with | some e => okE B hi e | none => nonC hi)
  | .lc elt own t it cs, .ListComp eelt [⟨tg, iter, ifs, 0⟩] scope _ => okBlk B scope own && okTgs B.N own scope t && okG (blkB B scope) t tg && noSet iter && tupTg it tg && okE B it iter && okL (blkB B scope) cs ifs && decide (cs.length ≤ 1) && okE (blkB B scope) elt eelt
  | .rng1 a, .Call (.Name x _) [ea] [] _ => x == ("range" : Str) && glB B x && noStar ea && okE B a ea
  | .rng2 a b, .Call (.Name x _) [ea, eb] [] _ => x == ("range" : Str) && glB B x && noStar ea && noStar eb && okE B a ea && okE B b eb
  | .rev a, e => match revOf e with
    | some ea => okE B a ea
    | none => false
  | .sset a, e => match ssetOf e with
    | some (x, y, ea) => x == ("sorted" : Str) && y == ("set" : Str) && glB B x && glB B y && noStar ea && okE B a ea
    | none => false
  | .attr a f cs, .Attribute ea x _ => x == Str.ofString f && baseOk ea && (cs.all fun c => B.ps c f) && okE B a ea
  | .dun d cs a is, e => if d == "__len__" then (match lenOf e, is with
      | some (x, ea), [] => x == ("len" : Str) && glB B x && noStar ea && (cs.all fun c => B.ms c d) && okE B a ea
      | _, _ => false)
    else if d == "__call__" then (match callOf e with
      | some (.Name x p, es) => (cs.all fun c => B.ms c d) && okE B a (.Name x p) && okL B is es && es.all noStar
      | _ => false)
    else false
  | .enum a, e => match lenOf e with
    | some (x, ea) => x == ("enumerate" : Str) && glB B x && noStar ea && okE B a ea
    | none => false
  | .zipi c f a b, e => match zipOf e with
    | some (x, ea, eb) => x == ("zip" : Str) && glB B x && noStar ea && noStar eb && B.its c f && okE B a ea && okE B b eb
    | none => false
  | _, _ => false
def okL (B : CB) : List IE → List Expr → Bool
  | [], [] => true
  | i :: is, e :: es => okE B i e && okL B is es
  | _, _ => false
end
end Q
end

section
set_option Elab.async false
set_option linter.all false
set_option maxRecDepth 100000
/-! Core23: an expression that passes the check keeps its IR. -/
namespace Q
open PySem PySem.Spec PyProof.Rows PySem.Builtin

inductive All2 (P : IE → Expr → Prop) : List IE → List Expr → Prop where
  | nil : All2 P [] []
  | cons {i : IE} {e : Expr} {is : List IE} {es : List Expr} : P i e → All2 P is es → All2 P (i :: is) (e :: es)
structure EnvOk (X : Fx) (B : CB) : Prop where
  N : X.N = B.N
  ns : X.env.scope.names = B.ns
  fn : X.fn = B.fn
  kind : X.env.scope.kind = .function
  gs : ∀ x i, B.gs.lookup x = some i → ∃ t, X.gc.mg x = some (.int i t)
def bltN : List String := ["len", "int", "list", "tuple", "sorted", "isinstance", "max", "min", "range", "bool", "str", "dict", "set", "enumerate", "zip", "iter"]
def Glb (gc : GC) : Prop := ∀ n ∈ bltN, gc.mg (Str.ofString n) = none
structure Orc (X : Fx) (C : Oracle) (B : CB) : Prop where
  cal : ∀ f, B.fs f = true → Cal X.gc X.k f (C f)
  ps : ∀ c f, B.ps c f = true → PropQ X.gc X.k c f (C (c ++ "." ++ f))
  ms : ∀ c f, B.ms c f = true → MethQ X.gc X.k c f (C (c ++ "." ++ f))
  its : ∀ c f, B.its c f = true → IterQ X.gc X.k c f
/-- what is proved of an expression -/
structure Snd (X : Fx) (C : Oracle) (i : IE) (e : Expr) : Prop where
  es : ESd X C i e
  et : ETd X C i e
  ei : ∀ tg, tupTg i tg = true → EId X C i e tg

section
variable {X : Fx} {C : Oracle} {B : CB} {pos : Pos}
theorem EnvOk.vis (h : EnvOk X B) {x : Str} (v : visB B x = true) : L2.Vis X.env.scope x ∧ (x == ("__debug__" : Str)) = false ∧ (x == ("__classdict__" : Str)) = false := by
  unfold visB at v
  simp only [Bool.and_eq_true, Bool.or_eq_true, beq_iff_eq, bne_iff_ne, ne_eq] at v
  obtain ⟨⟨h1, h2⟩, h3⟩ := v
  refine ⟨?_, by simpa using h2, by simpa using h3⟩
  unfold L2.Vis
  rw [h.ns]
  rcases h1 with (h1 | h1) | h1
  · exact .inl h1
  · exact .inr (.inl h1)
  · exact .inr (.inr h1)
theorem EnvOk.own (h : EnvOk X B) {x : Str} (v : ownB B x = true) : Own X x := by
  unfold ownB at v
  simp only [Bool.and_eq_true, Bool.or_eq_true, beq_iff_eq] at v
  unfold Own
  rw [h.ns, h.fn]
  exact v
theorem EnvOk.gl (h : EnvOk X B) {x : Str} (v : glB B x = true) : Gl X x ∧ (x == ("__debug__" : Str)) = false := by
  unfold glB at v
  simp only [Bool.and_eq_true, beq_iff_eq, bne_iff_ne, ne_eq] at v
  unfold Gl
  rw [h.ns]
  exact ⟨v.1, by simpa using v.2⟩
theorem txOk_of {t : Tx} (h : okTx t = true) : TxOk t := by
  unfold okTx at h
  simp only [Bool.and_eq_true, decide_eq_true_eq, List.all_eq_true] at h
  exact ⟨h.1, fun c hc => by simpa using h.2 c hc⟩
/-- a plain one: its value is all -/
theorem snd_plain {i : IE} {e : Expr} (h : ESd X C i e) (h1 : plainTest e = true) (h2 : plainI i = true) (h3 : plainIt i = true) : Snd X C i e := ⟨h, et_plain h h1 h2, fun _ _ => ei_plain h h3⟩
theorem snd_test {i : IE} {e : Expr} (h : ESd X C i e) (h1 : ETd X C i e) (h3 : plainIt i = true) : Snd X C i e := ⟨h, h1, fun _ _ => ei_plain h h3⟩
theorem snd_never {i : IE} {e : Expr} (h : ∀ st, ev C i st = .stuck) (h1 : ∀ st, evT C i st = .stuck) (h2 : ∀ tg, tupTg i tg = true → EId X C i e tg) : Snd X C i e :=
  ⟨⟨fun g st s Q E r k => by rw [h] at k; exact k.elim⟩, ⟨fun g st s Q E r k => by rw [h1] at k; exact k.elim⟩, h2⟩
theorem all_ea {is : List IE} {es : List Expr} (h : All2 (Snd X C) is es) (hs : es.all noStar = true) : EAd X C is es := by
  induction h with
  | nil => exact ea_nil
  | cons h _ ih =>
    rw [List.all_cons, Bool.and_eq_true] at hs
    exact ea_cons h.es (ih hs.2) hs.1
theorem all_eb {is : List IE} {es : List Expr} (h : All2 (Snd X C) is es) (hs : es.all noStar = true) : EBd X C is es := by
  induction h with
  | nil => exact eb_nil
  | cons h _ ih =>
    rw [List.all_cons, Bool.and_eq_true] at hs
    exact eb_cons h.es (ih hs.2) hs.1
theorem all_and {is : List IE} {es : List Expr} (h : All2 (Snd X C) is es) : is.isEmpty = false → ESd X C (.and_ is) (.BoolOp .And es pos) := by
  induction h with
  | nil => intro z; cases z
  | cons h t ih =>
    intro _
    cases t with
    | nil => exact es_and1 h.es
    | cons h2 t2 => exact es_and h.es (ih rfl)
theorem all_or {is : List IE} {es : List Expr} (h : All2 (Snd X C) is es) : is.isEmpty = false → ESd X C (.or_ is) (.BoolOp .Or es pos) := by
  induction h with
  | nil => intro z; cases z
  | cons h t ih =>
    intro _
    cases t with
    | nil => exact es_or1 h.es
    | cons h2 t2 => exact es_or h.es (ih rfl)
theorem all_wand {is : List IE} {es : List Expr} (h : All2 (Snd X C) is es) : EWd X (evTA C is) (.BoolOp .And es pos) := by
  induction h with
  | nil => exact ew_and0
  | cons h t ih => exact ew_and h.et ih
theorem all_wor {is : List IE} {es : List Expr} (h : All2 (Snd X C) is es) : EWd X (evTO C is) (.BoolOp .Or es pos) := by
  induction h with
  | nil => exact ew_or0
  | cons h t ih => exact ew_or h.et ih
theorem all_ec {is : List IE} {es : List Expr} (h : All2 (Snd X C) is es) (hl : is.length ≤ 1) : ECd X C is es := by
  cases h with
  | nil => exact ec_nil
  | cons h t =>
    cases t with
    | nil => exact ec_one h.et
    | cons _ _ => simp at hl
/-! ### a block -/
theorem nm_of (h : EnvOk X B) : ∀ {is : List Nat} {es : List Expr}, okNm B is es = true → NmOk X is es
  | [], [], _ => trivial
  | i :: is, e :: es, k => by
    cases e with
    | Name x p =>
      simp only [okNm, Bool.and_eq_true, beq_iff_eq] at k
      exact ⟨⟨by rw [h.N]; exact k.1.1, h.own k.1.2⟩, nm_of h k.2⟩
    | _ => simp [okNm] at k
  | [], _ :: _, k => by simp [okNm] at k
  | _ :: _, [], k => by simp [okNm] at k
theorem tg_of (h : EnvOk X B) {t : ITg} {e : Expr} (k : okG B t e = true) : TGd X t e := by
  cases t with
  | nm i =>
    cases e with
    | Name x p =>
      simp only [okG, Bool.and_eq_true, beq_iff_eq] at k
      exact tg_nm (by rw [h.N]; exact k.1) (h.own k.2)
    | _ => simp [okG] at k
  | tp is =>
    cases e with
    | Tuple es c p =>
      simp only [okG] at k
      exact tg_tp (nm_of h k)
    | _ => simp [okG] at k
theorem ownP_snd (N : List Str) (own : List Nat) : (ownP N own).map (·.2) = own := by
  unfold ownP
  rw [List.map_map]
  exact List.map_id own
theorem blk_of (h : EnvOk X B) {scope : Scope} {own : List Nat} (k : okBlk B scope own = true) : L2.BlkOk X.N X.env.scope scope (ownP B.N own) := by
  unfold okBlk at k
  simp only [Bool.and_eq_true, List.all_eq_true, beq_iff_eq] at k
  obtain ⟨⟨⟨⟨h1, h2⟩, h3⟩, h4⟩, h5⟩ := k
  refine ⟨h1, h2, fun p hp => by rw [h.N]; exact h3 p hp, fun y hy e => ?_, fun y hy e => ?_⟩
  · have q := h4 y hy
    rw [h.ns]
    simpa [e] using q
  · have q := h5 y hy
    rw [h.N]
    rcases e with e | e <;> simp [e] at q <;> rcases q with q | q
    · exact .inl (by simpa using q)
    · exact .inr q
    · exact .inl (by simpa using q)
    · exact .inr q
theorem env_blk (h : EnvOk X B) {scope : Scope} (hk : scope.kind = .function) (hp : Heap) : EnvOk (blkX X scope (ceOf X scope hp)) (blkB B scope) := by
  refine ⟨h.N, ?_, rfl, hk, h.gs⟩
  show (L2.relS scope X.env.scope).names = blkNs B.ns scope
  unfold L2.relS blkNs
  dsimp only
  rw [h.kind, h.ns]
  refine List.map_congr_left fun y _ => ?_
  obtain ⟨n, k⟩ := y
  simp
theorem tgs_of (h : EnvOk X B) {scope : Scope} {own : List Nat} {t : ITg} (k : okTgs B.N own scope t = true) :
    (∀ i ∈ tgS t, i ∈ (ownP B.N own).map (·.2)) ∧ ∀ i ∈ tgS t, ∀ y, X.N[i]? = some y → scope.names.lookup y ≠ some .free := by
  unfold okTgs at k
  simp only [List.all_eq_true, Bool.and_eq_true] at k
  rw [ownP_snd]
  refine ⟨fun i hi => by simpa using (k i hi).1, fun i hi y e => ?_⟩
  have q := (k i hi).2
  rw [h.N] at e
  rw [e] at q
  simpa using q
/-- a comprehension's parts -/
structure LcP (X : Fx) (C : Oracle) (ie : IE) (own : List Nat) (t : ITg) (it : IE) (cs : List IE) (elt tg iter : Expr) (ifs : List Expr) (scope : Scope) (ow : List (Str × Nat)) : Prop where
  hi : EId X C it iter tg
  ok : L2.BlkOk X.N X.env.scope scope ow
  hown : ∀ i ∈ tgS t, i ∈ ow.map (·.2)
  hfr : ∀ i ∈ tgS t, ∀ y, X.N[i]? = some y → scope.names.lookup y ≠ some .free
  hg : ∀ h : Heap, TGd (blkX X scope (ceOf X scope h)) t tg
  ht : ∀ h : Heap, ECd (blkX X scope (ceOf X scope h)) C cs ifs
  he : ∀ h : Heap, ESd (blkX X scope (ceOf X scope h)) C ie elt
  hs : noSet iter = true
  own : ow.map (·.2) = own
end
section
variable {C : Oracle}
theorem nonC_of {X : Fx} {i : IE} (h : nonC i = true) : EPd X C i none := by
  cases i with
  | c v =>
    cases v with
    | non => exact ep_none
    | _ => cases h
  | _ => cases h
theorem snd_c {X : Fx} {B : CB} {v : AV} {e : Expr} (H : EnvOk X B) (G : Glb X.gc) (h : okC B v e = true) : Snd X C (.c v) e := by
  cases v with
  | int i =>
    cases e with
    | Constant c k p =>
      cases c with
      | int j =>
        simp only [okC, beq_iff_eq] at h
        subst h
        exact snd_plain es_int rfl rfl rfl
      | _ => simp [okC] at h
    | Name x p =>
      simp only [okC, Bool.and_eq_true, beq_iff_eq] at h
      obtain ⟨⟨h1, h2⟩, h3⟩ := h
      obtain ⟨t, hm⟩ := H.gs x i h1
      exact snd_plain (es_glint (H.gl h2).1 hm (H.gl h2).2) rfl rfl rfl
    | _ => simp [okC] at h
  | bl i =>
    cases e with
    | Constant c k p =>
      cases c with
      | bool j =>
        simp only [okC, beq_iff_eq] at h
        subst h
        exact snd_plain es_bl rfl rfl rfl
      | _ => simp [okC] at h
    | _ => simp [okC] at h
  | non =>
    cases e with
    | Constant c k p =>
      cases c with
      | none => exact snd_plain es_non rfl rfl rfl
      | _ => simp [okC] at h
    | _ => simp [okC] at h
  | str t =>
    cases e with
    | Constant c k p =>
      cases c with
      | str x =>
        simp only [okC, Bool.and_eq_true, beq_iff_eq] at h
        obtain ⟨rfl, h⟩ := h
        exact snd_plain (es_str (txOk_of h)) rfl rfl rfl
      | _ => simp [okC] at h
    | _ => simp [okC] at h
  | ty n =>
    cases e with
    | Name x p =>
      simp only [okC, Bool.and_eq_true, beq_iff_eq] at h
      obtain ⟨⟨h1, rfl⟩, h3⟩ := h
      have hn : n ∈ tys := by simpa using h1
      have key : ∀ m ∈ tys, m ∈ bltN := by decide
      exact snd_plain (es_ty hn (H.gl h3).1 (G n (key n hn))) rfl rfl rfl
    | _ => simp [okC] at h
  | _ => simp [okC] at h
mutual
theorem snd_of : ∀ (i : IE) (B : CB) (X : Fx) (e : Expr), EnvOk X B → Glb X.gc → Orc X C B → okE B i e = true → Snd X C i e
  | .c v, B, X, e, H, G, O, h => by
    simp only [okE] at h
    exact snd_c H G h
  | .v i, B, X, e, H, G, O, h => by
    cases e with
    | Name x p =>
      simp only [okE, Bool.and_eq_true, beq_iff_eq] at h
      obtain ⟨v1, v2, v3⟩ := H.vis h.2
      exact snd_plain (es_var (by rw [H.N]; exact h.1) v1 v2 v3) rfl rfl rfl
    | _ => simp [okE] at h
  | .bin o a b, B, X, e, H, G, O, h => by
    cases e with
    | BinOp ea op eb p =>
      simp only [okE, Bool.and_eq_true, beq_iff_eq] at h
      obtain ⟨⟨rfl, h1⟩, h2⟩ := h
      exact snd_plain (es_bin (snd_of a B X ea H G O h1).es (snd_of b B X eb H G O h2).es) rfl rfl rfl
    | _ => simp [okE] at h
  | .neg a, B, X, e, H, G, O, h => by
    cases e with
    | UnaryOp op ea p =>
      cases op with
      | USub =>
        simp only [okE] at h
        exact snd_plain (es_neg (snd_of a B X ea H G O h).es) rfl rfl rfl
      | _ => simp [okE] at h
    | _ => simp [okE] at h
  | .not_ a, B, X, e, H, G, O, h => by
    cases e with
    | UnaryOp op ea p =>
      cases op with
      | Not =>
        simp only [okE] at h
        have q := snd_of a B X ea H G O h
        exact snd_test (es_not q.es) (et_not q.et) rfl
      | _ => simp [okE] at h
    | _ => simp [okE] at h
  | .cmp o a b, B, X, e, H, G, O, h => by
    cases e with
    | Compare ea ops es p =>
      match ops, es, h with
      | [op], [eb], h =>
        simp only [okE, Bool.and_eq_true, beq_iff_eq, Bool.not_eq_true'] at h
        obtain ⟨⟨⟨rfl, hm⟩, h1⟩, h2⟩ := h
        have q1 := snd_of a B X ea H G O h1
        have q2 := snd_of b B X eb H G O h2
        exact snd_test (es_cmp q1.es q2.es hm) (et_cmp q1.es q2.es hm) rfl
      | [], _, h => simp [okE] at h
      | _ :: _ :: _, _, h => simp [okE] at h
      | [_], [], h => simp [okE] at h
      | [_], _ :: _ :: _, h => simp [okE] at h
    | _ => simp [okE] at h
  | .chain o p a b d, B, X, e, H, G, O, h => by
    cases e with
    | Compare ea ops es pp =>
      match ops, es, h with
      | [op, op'], [eb, ed], h =>
        simp only [okE, Bool.and_eq_true, beq_iff_eq, Bool.not_eq_true'] at h
        obtain ⟨⟨⟨⟨⟨rfl, rfl⟩, hm⟩, h1⟩, h2⟩, h3⟩ := h
        have q1 := snd_of a B X ea H G O h1
        have q2 := snd_of b B X eb H G O h2
        have q3 := snd_of d B X ed H G O h3
        exact snd_test (es_chain q1.es q2.es q3.es hm) (et_chain q1.es q2.es q3.es hm) rfl
      | [], _, h => simp [okE] at h
      | [_], _, h => simp [okE] at h
      | _ :: _ :: _ :: _, _, h => simp [okE] at h
      | [_, _], [], h => simp [okE] at h
      | [_, _], [_], h => simp [okE] at h
      | [_, _], _ :: _ :: _ :: _, h => simp [okE] at h
    | _ => simp [okE] at h
  | .and_ is, B, X, e, H, G, O, h => by
    cases e with
    | BoolOp op es p =>
      cases op with
      | And =>
        simp only [okE, Bool.and_eq_true, Bool.not_eq_true'] at h
        have q := all_of is B X es H G O h.1
        exact snd_test (all_and q h.2) (et_and (all_wand q)) rfl
      | _ => simp [okE] at h
    | _ => simp [okE] at h
  | .or_ is, B, X, e, H, G, O, h => by
    cases e with
    | BoolOp op es p =>
      cases op with
      | Or =>
        simp only [okE, Bool.and_eq_true, Bool.not_eq_true'] at h
        have q := all_of is B X es H G O h.1
        exact snd_test (all_or q h.2) (et_or (all_wor q)) rfl
      | _ => simp [okE] at h
    | _ => simp [okE] at h
  | .ife t a b, B, X, e, H, G, O, h => by
    cases e with
    | IfExp et ea eb p =>
      simp only [okE, Bool.and_eq_true] at h
      have q1 := snd_of t B X et H G O h.1.1
      have q2 := snd_of a B X ea H G O h.1.2
      have q3 := snd_of b B X eb H G O h.2
      exact snd_test (es_ife q1.et q2.es q3.es) (et_ife q1.et q2.et q3.et) rfl
    | _ => simp [okE] at h
  | .tup is, B, X, e, H, G, O, h => by
    cases e with
    | Tuple es k p =>
      simp only [okE, Bool.and_eq_true] at h
      exact snd_plain (es_tup (all_ea (all_of is B X es H G O h.1) h.2)) rfl rfl rfl
    | _ => simp [okE] at h
  | .lst is, B, X, e, H, G, O, h => by
    cases e with
    | List es p =>
      simp only [okE, Bool.and_eq_true] at h
      exact snd_plain (es_lst (all_ea (all_of is B X es H G O h.1) h.2)) rfl rfl rfl
    | _ => simp [okE] at h
  | .call f is, B, X, e, H, G, O, h => by
    cases e with
    | Call fe es ks p =>
      cases fe with
      | Name x np =>
        cases ks with
        | nil =>
          simp only [okE, Bool.and_eq_true, beq_iff_eq] at h
          obtain ⟨⟨⟨⟨rfl, hf⟩, hg⟩, hl⟩, hs⟩ := h
          obtain ⟨g1, g2⟩ := H.gl hg
          have q := all_of is B X es H G O hl
          cases q with
          | nil => exact snd_plain (es_call0 (O.cal f hf) g1 g2) rfl rfl rfl
          | cons q1 q2 => exact snd_plain (es_call (O.cal f hf) (all_ea (.cons q1 q2) hs) hs g1 g2) rfl rfl rfl
        | cons _ _ => simp [okE] at h
      | _ => simp [okE] at h
    | _ => simp [okE] at h
  | .bcall f is, B, X, e, H, G, O, h => by
    cases e with
    | Call fe es ks p =>
      cases fe with
      | Name x np =>
        cases ks with
        | nil =>
          cases es with
          | nil => simp [okE] at h
          | cons e es =>
            simp only [okE, Bool.and_eq_true, beq_iff_eq] at h
            obtain ⟨⟨⟨rfl, hg⟩, hl⟩, hs⟩ := h
            obtain ⟨g1, g2⟩ := H.gl hg
            have q := all_of is B X (e :: es) H G O hl
            exact snd_plain (es_bcall (all_eb q hs) hs g1 (G _ (by cases f <;> decide))) rfl rfl rfl
        | cons _ _ => simp [okE] at h
      | _ => simp [okE] at h
    | _ => simp [okE] at h
  | .meth o m is, B, X, e, H, G, O, h => by
    cases e with
    | Call fe es ks p =>
      cases fe with
      | Attribute eo nm apos =>
        cases ks with
        | nil =>
          cases es with
          | nil => simp [okE] at h
          | cons e es =>
            simp only [okE, Bool.and_eq_true, beq_iff_eq, decide_eq_true_eq] at h
            obtain ⟨⟨⟨⟨⟨⟨rfl, hb⟩, hn⟩, hl⟩, ho⟩, hls⟩, hs⟩ := h
            have q := all_of is B X (e :: es) H G O hls
            exact snd_plain (es_meth (snd_of o B X eo H G O ho).es (all_eb q hs) hs (base_of hb _ _ _) hn (by simpa using hl)) rfl rfl rfl
        | cons _ _ => simp [okE] at h
      | _ => simp [okE] at h
    | _ => simp [okE] at h
  | .ix a b, B, X, e, H, G, O, h => by
    cases e with
    | Subscript ea eb p =>
      cases eb with
      | Slice lo hi st p2 => simp [okE, noSlice] at h
      | _ =>
        simp only [okE, Bool.and_eq_true] at h
        exact snd_plain (es_ix (snd_of a B X ea H G O h.1.2).es (snd_of b B X _ H G O h.2).es h.1.1) rfl rfl rfl
    | _ => simp [okE] at h
  | .sl a lo hi, B, X, e, H, G, O, h => by
    cases e with
    | Subscript ea eb p =>
      cases eb with
      | Slice elo ehi st p2 =>
        cases st with
        | some _ => simp [okE, noSlice] at h
        | none =>
          simp only [okE, Bool.and_eq_true] at h
          obtain ⟨⟨h1, h2⟩, h3⟩ := h
          have q1 : EPd X C lo elo := by
            cases elo with
            | some e => exact ep_some (snd_of lo B X e H G O h2).es
            | none => exact nonC_of h2
          have q2 : EPd X C hi ehi := by
            cases ehi with
            | some e => exact ep_some (snd_of hi B X e H G O h3).es
            | none => exact nonC_of h3
          exact snd_plain (es_sl (snd_of a B X ea H G O h1).es q1 q2) rfl rfl rfl
      | _ => simp [okE] at h
    | _ => simp [okE] at h
  | .lc ie own t it cs, B, X, e, H, G, O, h => by
    cases e with
    | ListComp elt gens scope p =>
      cases gens with
      | nil => simp [okE] at h
      | cons gc gs =>
        cases gs with
        | cons _ _ => simp [okE] at h
        | nil =>
        obtain ⟨tg, iter, ifs, asy⟩ := gc
        by_cases hz : asy = 0
        case neg => simp [okE, hz] at h
        subst hz
        have h0 := h
        simp only [okE, Bool.and_eq_true, decide_eq_true_eq] at h
        obtain ⟨⟨⟨⟨⟨⟨⟨⟨h1, h2⟩, h3⟩, h4⟩, hT⟩, h5⟩, h6⟩, h7⟩, h8⟩ := h
        have bk := blk_of H h1
        have Hb := fun hp => env_blk H bk.kind hp
        obtain ⟨t1, t2⟩ := tgs_of H h2
        have q : ESd X C (.lc ie ((ownP B.N own).map (·.2)) t it cs) (.ListComp elt [⟨tg, iter, ifs, 0⟩] scope p) :=
          es_lc ((snd_of it B X iter H G O h5).ei tg hT) bk t1 t2 (fun hp => tg_of (Hb hp) h3) (fun hp => all_ec (all_of cs (blkB B scope) _ ifs (Hb hp) G ⟨O.cal, O.ps, O.ms, O.its⟩ h6) h7) (fun hp => (snd_of ie (blkB B scope) _ elt (Hb hp) G ⟨O.cal, O.ps, O.ms, O.its⟩ h8).es) h4
        rw [ownP_snd] at q
        exact snd_plain q rfl rfl rfl
    | _ => simp [okE] at h
  | .rng1 a, B, X, e, H, G, O, h => by
    cases e with
    | Call fe es ks p =>
      cases fe with
      | Name x np =>
        match es, ks, h with
        | [ea], [], h =>
          simp only [okE, Bool.and_eq_true, beq_iff_eq] at h
          obtain ⟨⟨⟨rfl, hg⟩, hs⟩, h1⟩ := h
          exact snd_never (fun st => by rw [ev]) (fun st => by rw [evT_plain rfl, ev]; rfl) fun tg _ => ei_rng1 (H.gl hg).1 (G "range" (by decide)) (snd_of a B X ea H G O h1).es hs
        | [], _, h => simp [okE] at h
        | _ :: _ :: _, _, h => simp [okE] at h
        | [_], _ :: _, h => simp [okE] at h
      | _ => simp [okE] at h
    | _ => simp [okE] at h
  | .rng2 a b, B, X, e, H, G, O, h => by
    cases e with
    | Call fe es ks p =>
      cases fe with
      | Name x np =>
        match es, ks, h with
        | [ea, eb], [], h =>
          simp only [okE, Bool.and_eq_true, beq_iff_eq] at h
          obtain ⟨⟨⟨⟨⟨rfl, hg⟩, hs⟩, hs2⟩, h1⟩, h2⟩ := h
          exact snd_never (fun st => by rw [ev]) (fun st => by rw [evT_plain rfl, ev]; rfl) fun tg _ => ei_rng2 (H.gl hg).1 (G "range" (by decide)) (snd_of a B X ea H G O h1).es (snd_of b B X eb H G O h2).es hs hs2
        | [], _, h => simp [okE] at h
        | [_], _, h => simp [okE] at h
        | _ :: _ :: _ :: _, _, h => simp [okE] at h
        | [_, _], _ :: _, h => simp [okE] at h
      | _ => simp [okE] at h
    | _ => simp [okE] at h
  | .attr a f cs, B, X, e, H, G, O, h => by
    cases e with
    | Attribute ea x p =>
      simp only [okE, Bool.and_eq_true, beq_iff_eq, List.all_eq_true] at h
      obtain ⟨⟨⟨rfl, hb⟩, hc⟩, h1⟩ := h
      exact snd_plain (es_attr (snd_of a B X ea H G O h1).es (base_of hb _ _ _) fun c hm => O.ps c f (hc c hm)) rfl rfl rfl
    | _ => simp [okE] at h
  | .dun d cs a is, B, X, e, H, G, O, h => by
    unfold okE at h
    split at h
    · rename_i hd
      have hd : d = "__len__" := by simpa using hd
      subst hd
      cases he : lenOf e with
      | none => rw [he] at h; simp at h
      | some t =>
        obtain ⟨x, ea⟩ := t
        rw [he] at h
        obtain ⟨p, pos, rfl⟩ := lenOf_some he
        cases is with
        | cons _ _ => simp at h
        | nil =>
          simp only [Bool.and_eq_true, beq_iff_eq, List.all_eq_true] at h
          obtain ⟨⟨⟨⟨rfl, hg⟩, hs⟩, hc⟩, h1⟩ := h
          exact snd_plain (es_dlen (snd_of a B X ea H G O h1).es hs (H.gl hg).1 (G "len" (by decide)) fun c hm => O.ms c _ (hc c hm)) rfl rfl rfl
    · split at h
      · rename_i hd
        have hd : d = "__call__" := by simpa using hd
        subst hd
        cases he : callOf e with
        | none => rw [he] at h; simp at h
        | some t =>
          obtain ⟨f, es⟩ := t
          rw [he] at h
          cases f with
          | Name x p =>
            simp only [Bool.and_eq_true, List.all_eq_true] at h
            obtain ⟨⟨⟨hc, h1⟩, hl⟩, hs⟩ := h
            obtain ⟨e0, r, pos, rfl, rfl⟩ := callOf_some he
            have hs : (e0 :: r).all noStar = true := List.all_eq_true.mpr hs
            have q := all_of is B X (e0 :: r) H G O hl
            exact snd_plain (es_icall (snd_of a B X (.Name x p) H G O h1).es (all_ea q hs) hs fun c hm => O.ms c _ (hc c hm)) rfl rfl rfl
          | _ => simp at h
      · cases h
  | .enum a, B, X, e, H, G, O, h => by
    rw [okE] at h
    cases he : lenOf e with
    | none => rw [he] at h; simp at h
    | some t =>
      obtain ⟨x, ea⟩ := t
      rw [he] at h
      obtain ⟨p, pos, rfl⟩ := lenOf_some he
      simp only [Bool.and_eq_true, beq_iff_eq] at h
      obtain ⟨⟨⟨rfl, hg⟩, hs⟩, h1⟩ := h
      refine snd_never (fun st => by rw [ev]) (fun st => by rw [evT_plain rfl, ev]; rfl) fun tg ht => ?_
      cases tg <;> first | (cases ht; done) | exact ei_enum (snd_of a B X ea H G O h1).es hs (H.gl hg).1 (G "enumerate" (by decide))
  | .zipi c f a b, B, X, e, H, G, O, h => by
    rw [okE] at h
    cases he : zipOf e with
    | none => rw [he] at h; simp at h
    | some t =>
      obtain ⟨x, ea, eb⟩ := t
      rw [he] at h
      obtain ⟨p, pos, rfl⟩ := zipOf_some he
      simp only [Bool.and_eq_true, beq_iff_eq] at h
      obtain ⟨⟨⟨⟨⟨⟨rfl, hg⟩, hs1⟩, hs2⟩, hi⟩, h1⟩, h2⟩ := h
      refine snd_never (fun st => by rw [ev]) (fun st => by rw [evT_plain rfl, ev]; rfl) fun tg ht => ?_
      cases tg <;> first | (cases ht; done) | exact ei_zipi (snd_of a B X ea H G O h1).es (snd_of b B X eb H G O h2).es hs1 hs2 (H.gl hg).1 (G "zip" (by decide)) (O.its c f hi)
  | .zip a b, B, X, e, H, G, O, h => by simp [okE] at h
  | .rev a, B, X, e, H, G, O, h => by
    rw [okE] at h
    cases he : revOf e with
    | none => rw [he] at h; simp at h
    | some ea =>
      rw [he] at h
      obtain ⟨k, p1, p2, p3, pos, rfl⟩ := revOf_some he
      exact snd_plain (es_rev (snd_of a B X ea H G O h).es) rfl rfl rfl
  | .sset a, B, X, e, H, G, O, h => by
    simp only [okE] at h
    cases he : ssetOf e with
    | none => rw [he] at h; cases h
    | some t =>
      obtain ⟨x, y, ea⟩ := t
      rw [he] at h
      obtain ⟨p, q, p2, pos, rfl⟩ := ssetOf_some he
      simp only [Bool.and_eq_true, beq_iff_eq] at h
      obtain ⟨⟨⟨⟨⟨rfl, rfl⟩, hg1⟩, hg2⟩, hs⟩, h1⟩ := h
      exact snd_plain (es_sset (snd_of a B X ea H G O h1).es hs (H.gl hg1).1 (G "sorted" (by decide)) (H.gl hg2).1 (G "set" (by decide))) rfl rfl rfl
theorem all_of : ∀ (is : List IE) (B : CB) (X : Fx) (es : List Expr), EnvOk X B → Glb X.gc → Orc X C B → okL B is es = true → All2 (Snd X C) is es
  | [], B, X, es, H, G, O, h => by
    cases es with
    | nil => exact .nil
    | cons _ _ => simp [okL] at h
  | i :: is, B, X, es, H, G, O, h => by
    cases es with
    | nil => simp [okL] at h
    | cons e es =>
      simp only [okL, Bool.and_eq_true] at h
      exact .cons (snd_of i B X e H G O h.1) (all_of is B X es H G O h.2)
end
end
end Q
end

section
set_option Elab.async false
set_option linter.all false
set_option maxRecDepth 100000
/-! Core24: statements that pass the check keep their IR. -/
namespace Q
open PySem PySem.Spec PyProof.Rows PySem.Builtin

/-- does a comprehension give its value straight to the name -/
def swC (B : CB) (x : Str) (p : Pos) : Expr → Bool
  | .ListComp _ _ scope q => B.ns.lookup x == some .local && p.line == q.line && !(scope.names.any fun (n, k) => n == x && (k == .local || k == .cell))
  | _ => false
def lcOnly : Expr → Bool
  | .ListComp _ _ _ _ => true
  | e => noComp e
mutual
def okS (B : CB) : IS → Stmt → Bool
  | .asg (.nm i) a, .Assign [.Name x _] e _ => B.N[i]? == some x && ownB B x && lcOnly e && okE B a e
  | .asg (.tp is) a, .Assign [.Tuple es _ _] e _ => okNm B is es && noComp e && noTup e && okE B a e
  | .asgr i a, .Assign [.Name x _] e _ => B.N[i]? == some x && ownB B x && noComp e && okE B a e
  | .aset j i a, .Assign [.Subscript (.Name x _) ei _] e _ => B.N[j]? == some x && visB B x && noSlice ei && noComp e && okE B i ei && okE B a e
  | .expr a, .Expr e _ => noComp e && okE B a e
  | .app i a, .Expr (.Call (.Attribute (.Name x _) nm apos) [ea] [] p) _ => nm == ("append" : Str) && B.N[i]? == some x && visB B x && noStar ea && apos.endLine == p.line && okE B a ea
  | .ret a, .Return (some e) _ => okE B a e
  | .retN, .Return none _ => true
  | .ite t a b, .If e ts us _ => okE B t e && okSs B a ts && okSs B b us
  | .for_ t it body, .For tg iter ss [] _ => okG B t tg && noSet iter && tupTg it tg && okE B it iter && okSs B body ss
  | .whl t body, .While e ss [] _ => okE B t e && okSs B body ss
  | .brk, .Break _ => true
  | .cnt, .Continue _ => true
  | .pass, .Pass _ => true
  | .stk, _ => true
  | .mtch a ps bs, .Match e cs _ => okE B a e && okCs B ps bs cs
  | _, _ => false
def okSs (B : CB) : List IS → List Stmt → Bool
  | [], [] => true
  | i :: is, t :: ts => okS B i t && okSs B is ts
  | _, _ => false
def okCs (B : CB) : List IPat → List (List IS) → List MatchCase → Bool
  | [], [], [] => true
  | p :: ps, b :: bs, ⟨q, none, ss⟩ :: cs => okPat B.N p q && ((capS p).all fun i => match B.N[i]? with | some x => ownB B x | none => true) && okSs B b ss && okCs B ps bs cs
  | _, _, _ => false
end
section
variable {C : Oracle} {B : CB} {X : Fx}
theorem swaps_lc (H : EnvOk X B) {x : Str} {p q : Pos} {elt : Expr} {gens : List Comprehension} {scope : Scope} {l : Nat} :
    swapsWith (.ListComp elt gens scope q) (some (.Name x p)) l X.env = pure (swC B x p (.ListComp elt gens scope q)) := by
  have e : swapsWith (.ListComp elt gens scope q) (some (.Name x p)) l X.env = pure (X.env.blockKind == .function && X.env.kindOf x == some .local && p.line == q.line && !(scope.names.any fun (n, k) => n == x && (k == .local || k == .cell))) := rfl
  rw [e]
  have e1 : X.env.blockKind = .function := by unfold Env.blockKind; rw [H.kind]; rfl
  have e2 : X.env.kindOf x = B.ns.lookup x := by unfold Env.kindOf; rw [H.ns]
  rw [e1, e2]
  unfold swC
  rfl
theorem asg_of (H : EnvOk X B) (G : Glb X.gc) (O : Orc X C B) {i : Nat} {a : IE} {x : Str} {p pos : Pos} {e : Expr} (h1 : B.N[i]? = some x) (h2 : ownB B x = true) (h3 : lcOnly e = true) (h4 : okE B a e = true) : S1d X C (.asg (.nm i) a) (.Assign [.Name x p] e pos) := by
  have hN : X.N[i]? = some x := by rw [H.N]; exact h1
  by_cases hs : swC B x p e = true
  · cases e with
    | ListComp elt gens scope q =>
      cases a with
      | lc ie own t it cs =>
        have h := h4
        cases gens with
        | nil => simp [okE] at h
        | cons gc gs =>
          cases gs with
          | cons _ _ => simp [okE] at h
          | nil =>
            obtain ⟨tg, iter, ifs, asy⟩ := gc
            by_cases hz : asy = 0
            case neg => simp [okE, hz] at h
            subst hz
            simp only [okE, Bool.and_eq_true, decide_eq_true_eq] at h
            obtain ⟨⟨⟨⟨⟨⟨⟨⟨k1, k2⟩, k3⟩, k4⟩, kT⟩, k5⟩, k6⟩, k7⟩, k8⟩ := h
            have bk := blk_of H k1
            have Hb := fun hp => env_blk H bk.kind hp
            obtain ⟨t1, t2⟩ := tgs_of H k2
            have q := s_asgLc (C := C) (spos := pos) (ie := ie) (it := it) (cs := cs) (t := t) hN (H.own h2) (by rw [swaps_lc (p := p) H, hs]) ((snd_of it B X iter H G O k5).ei tg kT) bk t1 t2 (fun hp => tg_of (Hb hp) k3) (fun hp => all_ec (all_of cs (blkB B scope) _ ifs (Hb hp) G ⟨O.cal, O.ps, O.ms, O.its⟩ k6) k7) (fun hp => (snd_of ie (blkB B scope) _ elt (Hb hp) G ⟨O.cal, O.ps, O.ms, O.its⟩ k8).es) k4
            rw [ownP_snd] at q
            exact q
      | c v => cases v <;> simp [okE, okC] at h4
      | _ => simp [okE, ssetOf, lenOf, callOf, zipOf, revOf] at h4
    | _ => simp [swC] at hs
  · refine s_asg hN (H.own h2) (snd_of a B X e H G O h4).es ?_
    cases e with
    | ListComp elt gens scope q =>
      rw [swaps_lc H]
      rw [show swC B x p (.ListComp elt gens scope q) = false by simpa using hs]
    | _ => first | (cases h3; done) | exact swaps_of rfl _ _ _
mutual
theorem s_of : ∀ (i : IS) (B : CB) (X : Fx) (t : Stmt), EnvOk X B → Glb X.gc → Orc X C B → okS B i t = true → S1d X C i t
  | .asg (.nm i) a, B, X, t, H, G, O, h => by
    cases t with
    | Assign ts e p =>
      match ts, h with
      | [.Name x np], h =>
        simp only [okS, Bool.and_eq_true, beq_iff_eq] at h
        exact asg_of H G O h.1.1.1 h.1.1.2 h.1.2 h.2
      | [], h => simp [okS] at h
      | e1 :: e2 :: es, h => cases e1 <;> simp [okS] at h
      | [e1], h =>
        cases e1 with
        | Name x np =>
          simp only [okS, Bool.and_eq_true, beq_iff_eq] at h
          exact asg_of H G O h.1.1.1 h.1.1.2 h.1.2 h.2
        | _ => simp [okS] at h
    | _ => simp [okS] at h
  | .asg (.tp is) a, B, X, t, H, G, O, h => by
    cases t with
    | Assign ts e p =>
      cases ts with
      | nil => simp [okS] at h
      | cons e1 es1 =>
        cases es1 with
        | cons _ _ => cases e1 <;> simp [okS] at h
        | nil =>
          cases e1 with
          | Tuple es k tp =>
            simp only [okS, Bool.and_eq_true] at h
            exact s_asgT (nm_of H h.1.1.1) (snd_of a B X e H G O h.2).es h.1.1.2 h.1.2
          | _ => simp [okS] at h
    | _ => simp [okS] at h
  | .asgr i a, B, X, t, H, G, O, h => by
    cases t with
    | Assign ts e p =>
      cases ts with
      | nil => simp [okS] at h
      | cons e1 es1 =>
        cases es1 with
        | cons _ _ => cases e1 <;> simp [okS] at h
        | nil =>
          cases e1 with
          | Name x np =>
            simp only [okS, Bool.and_eq_true, beq_iff_eq] at h
            exact s_asgr (by rw [H.N]; exact h.1.1.1) (H.own h.1.1.2) (snd_of a B X e H G O h.2).es h.1.2
          | _ => simp [okS] at h
    | _ => simp [okS] at h
  | .aset j i a, B, X, t, H, G, O, h => by
    cases t with
    | Assign ts e p =>
      cases ts with
      | nil => simp [okS] at h
      | cons e1 es1 =>
        cases es1 with
        | cons e2 es2 =>
          have z : okS B (.aset j i a) (.Assign (e1 :: e2 :: es2) e p) = false := by rw [okS] <;> (intros; simp_all)
          rw [z] at h; cases h
        | nil =>
          cases e1 with
          | Subscript eo ei sp =>
            cases eo with
            | Name x np =>
              simp only [okS, Bool.and_eq_true, beq_iff_eq] at h
              obtain ⟨⟨⟨⟨⟨h1, h2⟩, h3⟩, h4⟩, h5⟩, h6⟩ := h
              obtain ⟨v1, v2, v3⟩ := H.vis h2
              exact s_aset (by rw [H.N]; exact h1) v1 v2 v3 (snd_of i B X ei H G O h5).es h3 (snd_of a B X e H G O h6).es h4
            | _ => simp [okS] at h
          | _ => simp [okS] at h
    | _ => simp [okS] at h
  | .fset _ _ _, B, X, t, H, G, O, h => by cases t <;> simp [okS] at h
  | .expr a, B, X, t, H, G, O, h => by
    cases t with
    | Expr e p =>
      simp only [okS, Bool.and_eq_true] at h
      exact s_expr (snd_of a B X e H G O h.2).es h.1
    | _ => simp [okS] at h
  | .app i a, B, X, t, H, G, O, h => by
    cases t with
    | Expr e p =>
      cases e with
      | Call fe es ks cp =>
        cases fe with
        | Attribute eo nm apos =>
          cases eo with
          | Name x np =>
            match es, ks, h with
            | [ea], [], h =>
              simp only [okS, Bool.and_eq_true, beq_iff_eq] at h
              obtain ⟨⟨⟨⟨⟨rfl, h1⟩, h2⟩, h3⟩, h4⟩, h5⟩ := h
              obtain ⟨v1, v2, v3⟩ := H.vis h2
              exact s_app (by rw [H.N]; exact h1) v1 v2 v3 (snd_of a B X ea H G O h5).es h3 (by simpa using h4)
            | [], _, h => simp [okS] at h
            | _ :: _ :: _, _, h => simp [okS] at h
            | [_], _ :: _, h => simp [okS] at h
          | _ => simp [okS] at h
        | _ => simp [okS] at h
      | _ => simp [okS] at h
    | _ => simp [okS] at h
  | .ret a, B, X, t, H, G, O, h => by
    cases t with
    | Return e p =>
      cases e with
      | some e => simp only [okS] at h; exact s_ret (snd_of a B X e H G O h).es
      | none => simp [okS] at h
    | _ => simp [okS] at h
  | .retN, B, X, t, H, G, O, h => by
    cases t with
    | Return e p =>
      cases e with
      | some e => simp [okS] at h
      | none => exact s_retN
    | _ => simp [okS] at h
  | .ite c a b, B, X, t, H, G, O, h => by
    cases t with
    | If e ts us p =>
      simp only [okS, Bool.and_eq_true] at h
      exact s_ite (snd_of c B X e H G O h.1.1).et (ss_of a B X ts H G O h.1.2) (ss_of b B X us H G O h.2)
    | _ => simp [okS] at h
  | .stk, B, X, t, H, G, O, h => ⟨fun g st s Q E r k => by rw [ex] at k; exact k.elim⟩
  | .for_ c it body, B, X, t, H, G, O, h => by
    cases t with
    | For tg iter ss es p =>
      cases es with
      | nil =>
        simp only [okS, Bool.and_eq_true] at h
        exact s_for ((snd_of it B X iter H G O h.1.2).ei tg h.1.1.2) (tg_of H h.1.1.1.1) (ss_of body B X ss H G O h.2) h.1.1.1.2
      | cons _ _ => simp [okS] at h
    | _ => simp [okS] at h
  | .whl c body, B, X, t, H, G, O, h => by
    cases t with
    | While e ss es p =>
      cases es with
      | nil =>
        simp only [okS, Bool.and_eq_true] at h
        exact s_whl (snd_of c B X e H G O h.1).et (ss_of body B X ss H G O h.2)
      | cons _ _ => simp [okS] at h
    | _ => simp [okS] at h
  | .brk, B, X, t, H, G, O, h => by
    cases t with
    | Break p => exact s_brk
    | _ => simp [okS] at h
  | .cnt, B, X, t, H, G, O, h => by
    cases t with
    | Continue p => exact s_cnt
    | _ => simp [okS] at h
  | .pass, B, X, t, H, G, O, h => by
    cases t with
    | Pass p => exact s_pass
    | _ => simp [okS] at h
  | .mtch a ps bs, B, X, t, H, G, O, h => by
    cases t with
    | Match e cs p =>
      simp only [okS, Bool.and_eq_true] at h
      exact s_mtch (snd_of a B X e H G O h.1).es (cs_of ps bs B X cs H G O h.2)
    | _ => simp [okS] at h
theorem ss_of : ∀ (is : List IS) (B : CB) (X : Fx) (ts : List Stmt), EnvOk X B → Glb X.gc → Orc X C B → okSs B is ts = true → SSd X C is ts
  | [], B, X, ts, H, G, O, h => by
    cases ts with
    | nil => exact ss_nil
    | cons _ _ => simp [okSs] at h
  | i :: is, B, X, ts, H, G, O, h => by
    cases ts with
    | nil => simp [okSs] at h
    | cons t ts =>
      simp only [okSs, Bool.and_eq_true] at h
      exact ss_cons (s_of i B X t H G O h.1) (ss_of is B X ts H G O h.2)
theorem cs_of : ∀ (ps : List IPat) (bs : List (List IS)) (B : CB) (X : Fx) (cs : List MatchCase), EnvOk X B → Glb X.gc → Orc X C B → okCs B ps bs cs = true → CaseOk X C ps bs cs
  | [], [], B, X, cs, H, G, O, h => by
    cases cs with
    | nil => exact .nil
    | cons _ _ => simp [okCs] at h
  | p :: ps, b :: bs, B, X, cs, H, G, O, h => by
    cases cs with
    | nil => simp [okCs] at h
    | cons c cs =>
      obtain ⟨q, gd, ss⟩ := c
      cases gd with
      | some _ => simp [okCs] at h
      | none =>
        simp only [okCs, Bool.and_eq_true, List.all_eq_true] at h
        obtain ⟨⟨⟨h1, h2⟩, h3⟩, h4⟩ := h
        refine .cons (by rw [H.N]; exact h1) (fun i hi x e => ?_) (ss_of b B X ss H G O h3) (cs_of ps bs B X cs H G O h4)
        have q := h2 i hi
        rw [H.N] at e
        rw [e] at q
        exact H.own q
  | [], _ :: _, B, X, cs, H, G, O, h => by cases cs <;> simp [okCs] at h
  | _ :: _, [], B, X, cs, H, G, O, h => by cases cs <;> simp [okCs] at h
end
end
end Q
end

section
set_option Elab.async false
set_option linter.all false
set_option maxRecDepth 100000
/-! Core25: the call of the law. -/
namespace Q
open PySem PySem.Spec PyProof.Rows PySem.Builtin
section
variable {M : Model} {A : Around} {E : Value → Shared → Prop} {s : Shared}
/-- one local parameter: a token is given out -/
theorem bind_tok {env : Env} {x : Str} {v : Value} {s₀ : Shared} {Q : PUnit → Shared → Prop} (f : Str × Value → PUnit → Sem (ForInStep PUnit)) (hf : ∀ n v u, f (n, v) u = (do storeName env n v; pure (.yield ⟨⟩))) (hk : env.scope.kind = .function)
    (hl : env.kindOf x = some .local) (hx : InCallC s₀ env.locals (fun _ => none) env.cells (fun _ => none) s)
    (h : ∀ s', InCallC s₀ env.locals (bindL env.kindOf [(x, v)] fun _ => none) env.cells (bindC env.kindOf [(x, v)] fun _ => none) s' → s.toks + 1 ≤ s'.toks → Q ⟨⟩ s') : wpAny M A (forIn [(x, v)] ⟨⟩ f) Q E s := by
  rw [List.forIn_cons, hf]
  refine wpAny_bind (wpAny_bind (wpAny_storeName_local hl hx.toInCall.ns (fun h' hn' hs' => wpAny_pure ?_) (by rw [hk]; rfl)))
  show wpAny M A (forIn ([] : List (Str × Value)) PUnit.unit f) Q E _
  rw [List.forIn_nil]
  refine wpAny_pure (h _ ⟨⟨?_, ?_, fun b o e => ?_, hx.toInCall.fresh⟩, fun k c hc => ?_, hx.apart, hx.above⟩ (Nat.le_refl _))
  · obtain ⟨h₁, tk, rfl⟩ := hx.toInCall.same
    exact ⟨h', _, rfl⟩
  · unfold bindL bindL
    rw [if_pos hl]
    exact hn'
  · exact hs'.extBut b o (Nat.ne_of_lt (Nat.lt_of_lt_of_le (Heap.lt_size e) hx.toInCall.fresh)) (hx.toInCall.keep b o e)
  · have q := hx.cell k c hc
    unfold bindC bindC
    rw [if_pos hl]
    exact q.sameBut hs' (Nat.ne_of_gt (hx.above k c (PySem.mem_of_lookup hc)))
theorem env_tok {scope : Scope} {globals : Addr} {x : Str} {v : Value} {qual : Str} {func : Option Addr} {code : Value} {builtins : Addr} {Q : Env → Shared → Prop} (hk : scope.kind = .function) (hl : scope.names.lookup x = some .local)
    (hQ : ∀ env, env = newEnv scope s.heap.objs.size globals (cellsFrom (s.heap.objs.size + 1) scope.names []) qual func code none builtins →
      ∀ s', InCallC s env.locals (bindL env.kindOf [(x, v)] fun _ => none) env.cells (bindC env.kindOf [(x, v)] fun _ => none) s' → s.toks + 1 ≤ s'.toks → Q env s') :
    wpAny M A (newFunctionEnv scope globals [] [(x, v)] qual func code none builtins) Q E s := by
  simp only [newFunctionEnv, Option.isSome_none, Bool.false_eq_true, if_false]
  refine wpAny_bind (wpAny_alloc (wpAny_bind (wpAny_layCells _ (fun name kind cells => by cases hkc : kind == NameKind.cell <;> simp [hkc]) _ _ _ _ ?_)))
  have co := cellsFrom_ok scope.names (s.heap.push { cls := .type "frame", data := .dict #[] }) (s.heap.objs.size + 1) []
    ⟨fun _ _ hm => (nomatch hm), List.Pairwise.nil⟩ (by rw [Heap.size_push]; exact Nat.le_refl _)
  rw [Heap.size_push] at co
  rw [show ({ s with heap := s.heap.push { cls := .type "frame", data := .dict #[] } } : Shared).heap.objs.size = s.heap.objs.size + 1 from Heap.size_push ..]
  refine wpAny_bind (bind_tok (s₀ := s) (env := newEnv scope s.heap.objs.size globals (cellsFrom (s.heap.objs.size + 1) scope.names []) qual func code none builtins)
    _ (fun _ _ _ => rfl) hk hl ⟨⟨⟨_, _, rfl⟩, Heap.Ns.keeps (Heap.Ns.new s.heap (.type "frame")) (pushCells_keeps _ _), fun b o e => pushCells_keeps _ _ b o (Heap.get?_push_of_some _ e), Nat.le_refl _⟩,
      fun n c hc => (co.empty n c (PySem.mem_of_lookup hc)).1, co.apart, fun n c hm => (co.empty n c hm).2⟩ fun s' x ht => wpAny_pure (hQ _ rfl s' x ht))
end

/-- the law itself: called where no token is known to be given out -/
theorem law_fn {gc : GC} {C : Oracle} {k : Nat} {f : Addr} {name qual x : Str} {params : Arguments} {body : List Stmt} {scope : Scope} {dV kV doc pm cdv ct oc : Value} {an od : Option Addr}
    {osl : Array (Option Value)} {N : List Str} {ir : IFn} (lk : gc.K.lookup f = some ⟨oc, od, .func (PySem.W.fnOf name qual params body scope dV kV doc pm an cdv ct), osl⟩) (hcd : PySem.W.codeIn gc.K cdv qual = true) (Sc : L2.FnScope N [x] scope)
    (hb : ∀ us : List Value, us.length = 1 → bindArgs (PySem.W.fnOf name qual params body scope dV kV doc pm an cdv ct) ⟨us, []⟩ = pure (([x] : List Str).zip us)) (hnp : ir.np = 1) (hnn : ir.nn = N.length) (hl : scope.names.lookup x = some .local)
    (hbody : ∀ X : Fx, X.gc = gc → X.N = N → X.env.scope = scope → X.k = k → (∀ x, X.fn x = true) → SSd X C ir.body body)
    {A : Around} {s : Shared} {g : Gh} {hp : List AV} {v : AV} {u : Value} {R : Result → Shared → Prop} (hr : L2.Room (k + 1) A) (e0 : CallOk gc A [] g hp { s with toks := s.toks + 1 }) (q : Rep gc g s.heap v u)
    (hR : FRok (run C ir [v] hp) fun v fr hp' => ∀ g' s' u, CallEnd gc [] g { s with toks := s.toks + 1 } g' hp' s' → RV gc s g' s' fr v u → R (.ok (.ret u)) s') :
    codeAny (model gc.P gc.w) A (.call (.ref f) ⟨[u], []⟩) R s := by
  obtain ⟨hln, hR⟩ := FRok_run hR
  have KX : gc.K.In s.heap := e0.mod.kin.keeps e0.base
  have lim : s.heap.NoLimit := e0.mod.nolimit.keeps e0.base
  refine codeAny_call_function hr.depth (KX _ _ lk) rfl Sc.co Sc.gen rfl (PySem.W.codeRec_of KX hcd) ?_
  rw [hb [u] rfl]
  refine wpAny_pure (env_tok Sc.kind hl fun env he s1 y ht => ?_)
  subst he
  refine ⟨lim.keeps y.toInCall.keep, codeAny_func ?_⟩
  have y2 : InCallC { s with toks := s.toks + 1 } s.heap.objs.size (bindL (envOfC qual scope s.heap.objs.size f cdv).kindOf [(x, u)] fun _ => none) (cellsFrom (s.heap.objs.size + 1) scope.names []) (bindC (envOfC qual scope s.heap.objs.size f cdv).kindOf [(x, u)] fun _ => none) s1 :=
    ⟨⟨let ⟨h', tk, e⟩ := y.toInCall.same; ⟨h', tk, by rw [e]⟩, y.toInCall.ns, y.toInCall.keep, y.toInCall.fresh⟩, y.cell, y.apart, y.above⟩
  obtain ⟨r1, f1⟩ := start_sr (s := { s with toks := s.toks + 1 }) (f := f) (qual := qual) (cd := cdv) (us := [u]) (ps := [x]) (vs := [v]) Sc hr e0 rfl (RepL.one q) ht y2
  rw [hnn] at hR
  refine (hbody (fxOf gc N qual scope f cdv A [] s.heap k) rfl rfl rfl rfl (fun _ => rfl)).run g _ s1 _ _ r1 (hR.mono fun fl st' h g' s' r' f' => ?_)
  have ft := f1.trans f'
  have inFr : ∀ a, (∃ o, s.heap.get? a = some o) → a ∉ L2.frs (fxOf gc N qual scope f cdv A [] s.heap k).stack := fun a ha hL => by
    have hL : a ∈ L2.frs [envOfC qual scope s.heap.objs.size f cdv] := hL
    rw [frs_cons rfl] at hL
    rcases List.mem_cons.mp hL with e | e
    · subst e
      exact some_ne ha (Heap.get?_none_of_le (Nat.le_refl _))
    · cases e
  have ce : CallEnd gc [] g { s with toks := s.toks + 1 } g' st'.hp s' := ⟨ft.os, r'.bare, ⟨fun a o e nm _ => ft.keep a o ⟨o, e⟩ e nm (inFr a ⟨o, e⟩), fun a o e nm => ft.slot a o ⟨o, e⟩ e nm, ft.there⟩, ft.mono.fz, ft.fzNew, ft.th, ft.mono.tk, ft.toks, r'.gh⟩
  cases fl with
  | nx => exact h g' s' .none ce (rep_non (gc := gc) (g := g') (h := s'.heap))
  | bk => exact h.elim
  | ct => exact h.elim
  | rt v md =>
    intro u t
    refine h g' s' u ce ?_
    cases md with
    | fz => exact t
    | fr =>
      obtain ⟨a, xs, us, e1, e2, l, q, nf, nm, hlo, hn, no⟩ := t
      exact ⟨a, xs, us, e1, e2, l, q, nf, nm, hlo⟩
    | bo i =>
      obtain ⟨e, a0⟩ := t
      obtain ⟨u0, a1, b, xs, us, e1, e2, l, q, nf, nm, hlo⟩ := r'.slot i _ _ e a0.vis
      have := a1.inj a0
      subst this
      exact ⟨b, xs, us, e1, e2, l, q, nf, nm, hlo⟩

theorem law_end {P : Program} {w : World} {K : PySem.W.Frag} {mg mb : Str → Option Value} {cls : String → Option Addr} {C : Oracle} {k : Nat} {fa a : Addr} {name qual x : Str} {params : Arguments} {body : List Stmt} {scope : Scope} {dV kV doc pm cdv ct oc : Value} {an od : Option Addr}
    {osl : Array (Option Value)} {N : List Str} {ir : IFn} {s₁ : Shared} {vs : List Value} {ns : List Int}
    (KX : K.In s₁.heap) (hns : s₁.heap.Ns mainGlobals mg) (hb : s₁.heap.Ns builtinsNs mb) (hbb : ∀ x : Str, x ≠ "__name__" → mb x = bootBuiltins x) (hlim : s₁.heap.NoLimit) (nb : NoneBooked s₁.heap) (hg : s₁.gens = #[])
    (ha : s₁.heap.get? a = some { cls := .type "list", data := .seq vs.toArray }) (hi : IntsAre vs ns) (hln : ns.length ≤ LIM) (hr : L2.Room (k + 1) callerA)
    (lk : K.lookup fa = some ⟨oc, od, .func (PySem.W.fnOf name qual params body scope dV kV doc pm an cdv ct), osl⟩) (hcd : PySem.W.codeIn K cdv qual = true) (Sc : L2.FnScope N [x] scope)
    (hbi : ∀ us : List Value, us.length = 1 → bindArgs (PySem.W.fnOf name qual params body scope dV kV doc pm an cdv ct) ⟨us, []⟩ = pure (([x] : List Str).zip us)) (hnp : ir.np = 1) (hnn : ir.nn = N.length) (hl : scope.names.lookup x = some .local)
    (hbody : ∀ X : Fx, X.gc = ⟨P, w, K, mg, s₁.heap, cls⟩ → X.N = N → X.env.scope = scope → X.k = k → (∀ x, X.fn x = true) → SSd X C ir.body body)
    (hrun : FRok (run C ir [.lst (ns.map .int)] []) fun v fr _ => v = .bl true ∧ fr = false) :
    codeAny (model P w) callerA (.call (.ref fa) ⟨[.ref a], []⟩) (fun r s' => r = .ok (.ret (.bool true)) ∧ OldK s₁.heap s'.heap ∧ s'.os = s₁.os ∧ AllBare s'.gens) s₁ := by
  let gc : GC := ⟨P, w, K, mg, s₁.heap, cls⟩
  let g0 : Gh := ⟨fun b => b = a, [], fun _ => none⟩
  have l0 : LstAt s₁.heap a vs := ⟨by rw [hi.length]; exact hln, 0, ha⟩
  have nomu : ∀ b, ¬ g0.mu b := fun b h => by
    obtain ⟨p, hp, _⟩ := h
    cases hp
  have gh : GhOk gc g0 [] { s₁ with toks := s₁.toks + 1 } := by
    refine ⟨fun b e => ⟨_, (congrArg s₁.heap.get? (show b = a from e)).trans ha⟩, List.Pairwise.nil, fun b h => (nomu b h).elim, fun b h => (nomu b h).elim, fun b h => (nomu b h).elim, rfl, fun k p v e _ => ?_, rfl, fun t x e => ?_, Nat.succ_pos _⟩
    · have e : ([] : List (Addr × Option Addr))[k]? = some p := e
      simp at e
    · have e : (none : Option Tx) = some x := e
      cases e
  have e0 : CallOk gc callerA [] g0 [] { s₁ with toks := s₁.toks + 1 } :=
    ⟨rfl, ⟨KX, hns, ⟨mb, hb, hbb⟩, hlim⟩, nb, fun _ _ e => e, by show AllBare s₁.gens; rw [hg]; exact .of_eq rfl, trivial, gh, fun L hL => (by cases hL), fun L hL => (by cases hL), fun L hL => (by cases hL)⟩
  have q : Rep gc g0 s₁.heap (.lst (ns.map .int)) (.ref a) := by
    simp only [Rep]
    exact ⟨a, vs, rfl, rfl, l0, repL_ints hi⟩
  refine law_fn (gc := gc) lk hcd Sc hbi hnp hnn hl hbody hr e0 q (hrun.mono fun v fr hp' h g' s' u ce rv => ?_)
  obtain ⟨rfl, rfl⟩ := h
  simp only [RV, Rep] at rv
  subst rv
  exact ⟨rfl, OldK.of_keep fun b o e => ce.kp.keep b o e (nomu b) (fun hL => (by cases hL)), ce.os, ce.bare⟩
end Q
end

section
set_option Elab.async false
set_option linter.all false
set_option maxRecDepth 100000
/-! Core26: defs by their check. -/
namespace Q
theorem frok_of {r : FR} {Q : AV → Bool → List AV → Prop} (h : r.W Q fun _ _ => False) : FRok r Q := by
  cases r with
  | ok v b hp => exact h
  | exc x hp => exact h
  | stuck => exact h
open PySem PySem.Spec PyProof.Rows PySem.Builtin
theorem env_of {X : Fx} {N : List Str} {scope : Scope} {fs : String → Bool} {gs : List (Str × Int)} {ps ms its : String → String → Bool} (hgs : ∀ x i, gs.lookup x = some i → ∃ t, X.gc.mg x = some (.int i t)) (h1 : X.N = N) (h2 : X.env.scope = scope) (h3 : ∀ x, X.fn x = true) (hk : scope.kind = .function) : EnvOk X ⟨N, scope.names, fun _ => true, fs, gs, ps, ms, its⟩ :=
  ⟨h1, by rw [h2], funext h3, by rw [h2]; exact hk, hgs⟩
/-- a def of the module, by its statement's check -/
theorem q_of {gc : GC} {C : Oracle} {k : Nat} {f : Addr} {fd : FuncData} {x qual : Str} {st : Stmt} {N ps : List Str} {ir : IFn} {fs : String → Bool} {gs : List (Str × Int)} {psF msF itF : String → String → Bool} (hgs : ∀ x i, gs.lookup x = some i → ∃ t, gc.mg x = some (.int i t)) (F : L2.Fun gc.K x qual st f fd) (Sc : L2.FnScope N ps (L2.defScope st))
    (hb : ∀ (kV doc pm : Value) (an : Option Addr) (cdv ct : Value) (us : List Value), us.length = ps.length → bindArgs (PySem.W.fnOf x qual (L2.defArgs st) (L2.defBody st) (L2.defScope st) .none kV doc pm an cdv ct) ⟨us, []⟩ = pure (ps.zip us))
    (hnp : ir.np = ps.length) (hnn : ir.nn = N.length) (ok : okSs ⟨N, (L2.defScope st).names, fun _ => true, fs, gs, psF, msF, itF⟩ ir.body (L2.defBody st) = true) (G : Glb gc) (O : ∀ f, fs f = true → Cal gc k f (C f)) (OP : ∀ c f, psF c f = true → PropQ gc k c f (C (c ++ "." ++ f))) (OM : ∀ c f, msF c f = true → MethQ gc k c f (C (c ++ "." ++ f))) (OI : ∀ c f, itF c f = true → IterQ gc k c f) : FnQ gc (k + 1) f (run C ir) := by
  obtain ⟨oc, od, kV, doc, pm, an, cdv, ct, osl, rfl, lk, hcd⟩ := F.ex
  refine fn_of lk hcd Sc (hb kV doc pm an cdv ct) hnp hnn fun X e1 e2 e3 e4 e5 => ?_
  subst e1
  exact ss_of ir.body _ X _ (env_of hgs e2 e3 e5 Sc.kind) G ⟨fun f hf => by rw [e4]; exact O f hf, fun c f h => by rw [e4]; exact OP c f h, fun c f h => by rw [e4]; exact OM c f h, fun c f h => by rw [e4]; exact OI c f h⟩ ok
theorem cal_of {gc : GC} {C : Oracle} {k : Nat} {f : Addr} {fd : FuncData} {n : String} {st : Stmt} {N ps : List Str} {ir : IFn} {fs : String → Bool} {gs : List (Str × Int)} {psF msF itF : String → String → Bool} (hgs : ∀ x i, gs.lookup x = some i → ∃ t, gc.mg x = some (.int i t)) (hm : gc.mg (Str.ofString n) = some (.ref f)) (F : L2.Fun gc.K (Str.ofString n) (Str.ofString n) st f fd) (Sc : L2.FnScope N ps (L2.defScope st))
    (hb : ∀ (kV doc pm : Value) (an : Option Addr) (cdv ct : Value) (us : List Value), us.length = ps.length → bindArgs (PySem.W.fnOf (Str.ofString n) (Str.ofString n) (L2.defArgs st) (L2.defBody st) (L2.defScope st) .none kV doc pm an cdv ct) ⟨us, []⟩ = pure (ps.zip us))
    (hnp : ir.np = ps.length) (hnn : ir.nn = N.length) (ok : okSs ⟨N, (L2.defScope st).names, fun _ => true, fs, gs, psF, msF, itF⟩ ir.body (L2.defBody st) = true) (G : Glb gc) (O : ∀ f, fs f = true → Cal gc k f (C f)) (OP : ∀ c f, psF c f = true → PropQ gc k c f (C (c ++ "." ++ f))) (OM : ∀ c f, msF c f = true → MethQ gc k c f (C (c ++ "." ++ f))) (OI : ∀ c f, itF c f = true → IterQ gc k c f) : Cal gc (k + 1) n (run C ir) :=
  ⟨f, hm, F.kp, q_of hgs F Sc hb hnp hnn ok G O OP OM OI⟩
theorem Cal.up {gc : GC} {k j : Nat} {n : String} {F : List AV → List AV → FR} (h : Cal gc k n F) (hk : k ≤ j) : Cal gc j n F := let ⟨f, a, b, c⟩ := h; ⟨f, a, b, c.up hk⟩
/-- the law, by its statement's check -/
theorem law_of {P : Program} {w : World} {K : PySem.W.Frag} {mg mb : Str → Option Value} {cls : String → Option Addr} {C : Oracle} {k : Nat} {fa a : Addr} {fd : FuncData} {n x : Str} {st : Stmt} {N : List Str} {ir : IFn} {fs : String → Bool} {gs : List (Str × Int)} {psF msF itF : String → String → Bool} {s₁ : Shared} {vs : List Value} {ns : List Int}
    (hgs : ∀ x i, gs.lookup x = some i → ∃ t, mg x = some (.int i t))
    (KX : K.In s₁.heap) (hns : s₁.heap.Ns mainGlobals mg) (hb : s₁.heap.Ns builtinsNs mb) (hbb : ∀ x : Str, x ≠ "__name__" → mb x = bootBuiltins x) (hlim : s₁.heap.NoLimit) (nb : NoneBooked s₁.heap) (hg : s₁.gens = #[])
    (ha : s₁.heap.get? a = some { cls := .type "list", data := .seq vs.toArray }) (hi : IntsAre vs ns) (hln : ns.length ≤ LIM) (hr : L2.Room (k + 1) callerA)
    (F : L2.Fun K n n st fa fd) (Sc : L2.FnScope N [x] (L2.defScope st))
    (hbi : ∀ (kV doc pm : Value) (an : Option Addr) (cdv ct : Value) (us : List Value), us.length = 1 → bindArgs (PySem.W.fnOf n n (L2.defArgs st) (L2.defBody st) (L2.defScope st) .none kV doc pm an cdv ct) ⟨us, []⟩ = pure (([x] : List Str).zip us))
    (hnp : ir.np = 1) (hnn : ir.nn = N.length) (hl : (L2.defScope st).names.lookup x = some .local) (ok : okSs ⟨N, (L2.defScope st).names, fun _ => true, fs, gs, psF, msF, itF⟩ ir.body (L2.defBody st) = true)
    (G : Glb ⟨P, w, K, mg, s₁.heap, cls⟩) (O : ∀ f, fs f = true → Cal ⟨P, w, K, mg, s₁.heap, cls⟩ k f (C f)) (OP : ∀ c f, psF c f = true → PropQ ⟨P, w, K, mg, s₁.heap, cls⟩ k c f (C (c ++ "." ++ f))) (OM : ∀ c f, msF c f = true → MethQ ⟨P, w, K, mg, s₁.heap, cls⟩ k c f (C (c ++ "." ++ f))) (OI : ∀ c f, itF c f = true → IterQ ⟨P, w, K, mg, s₁.heap, cls⟩ k c f)
    (hrun : FRok (run C ir [.lst (ns.map .int)] []) fun v fr _ => v = .bl true ∧ fr = false) :
    codeAny (model P w) callerA (.call (.ref fa) ⟨[.ref a], []⟩) (fun r s' => r = .ok (.ret (.bool true)) ∧ OldK s₁.heap s'.heap ∧ s'.os = s₁.os ∧ AllBare s'.gens) s₁ := by
  obtain ⟨oc, od, kV, doc, pm, an, cdv, ct, osl, rfl, lk, hcd⟩ := F.ex
  refine law_end (cls := cls) KX hns hb hbb hlim nb hg ha hi hln hr lk hcd Sc (hbi kV doc pm an cdv ct) hnp hnn hl (fun X e1 e2 e3 e4 e5 => ?_) hrun
  have G' : Glb X.gc := by rw [e1]; exact G
  exact ss_of ir.body _ X _ (env_of (by rw [e1]; exact hgs) e2 e3 e5 Sc.kind) G' ⟨fun f hf => by rw [e1, e4]; exact O f hf, fun c f h => by rw [e1, e4]; exact OP c f h, fun c f h => by rw [e1, e4]; exact OM c f h, fun c f h => by rw [e1, e4]; exact OI c f h⟩ ok
end Q
namespace Q
open PySem PySem.Spec PyProof.Rows PySem.Builtin
theorem ns_none {K : PySem.W.Frag} {h : Heap} {a : Addr} {m : Str → Option Value} {n : Str} (X : K.In h) (G : h.Ns a m) (e : PySem.W.nsIn K a n = some none) : m n = none := by
  obtain ⟨o, es, ep, ho, hd, _, hf⟩ := G
  rw [← hf n]
  unfold PySem.W.nsIn at e
  split at e
  case h_2 => cases e
  rename_i c d es' n' sl q
  have ht := (X _ _ q).symm.trans ho
  cases ht
  cases hd
  split at e
  case h_1 => cases e
  rename_i he
  unfold nsFind findBy
  rw [← Array.find?_toList, he]
  rfl
theorem nb_of {K : PySem.W.Frag} {h : Heap} (X : K.In h) (lim : h.NoLimit) (e : PySem.W.nsIn K cStatics sharingNotToldKey = some none) : NoneBooked h :=
  let ⟨mc, n, _⟩ := lim; ⟨mc, n, ns_none X n e⟩
/-- a def that is never come to -/
theorem cal_stuck {gc : GC} {k : Nat} {f : Addr} {n : String} (hm : gc.mg (Str.ofString n) = some (.ref f)) (kp : PySem.W.keepIn gc.K (.ref f) = true) : Cal gc k n (fun _ _ => .stuck) :=
  ⟨f, hm, kp, fun A outer s g hp vs us R _ _ _ h => h.elim⟩
/-- a def of a class -/
def clsS (s : Stmt) (j : Nat) : Stmt := match s with
  | .ClassDef _ _ _ b _ _ _ _ _ _ _ => b.getD j (.Pass ⟨0, 0, 0, 0⟩)
  | _ => .Pass ⟨0, 0, 0, 0⟩
def topS (p : Program) (i : Nat) : Stmt := p.main.body.getD i (.Pass ⟨0, 0, 0, 0⟩)
theorem walk_T {l : PySem.W.OpenLaw} {n : Nat} {q : Program} {loose : List Str} {XP : (Str → Option Value) → Heap → Prop} {YP : World → Heap → Prop} {d : DefRec} {K : Params → PySem.W.Frag}
    (hn : l.most = some n) (hdf : d.params.defaults = []) (hY : ∀ (w : World) (h : Heap), YP w h → (K w.params).In h)
    (F : ∀ (w : World) (mg mb : Str → Option Value) (fa a : Addr) (s₁ : Shared) (vs : List Value) (ns : List Int), (K w.params).In s₁.heap → s₁.heap.Ns mainGlobals mg → mg d.name = some (.ref fa) → s₁.heap.Ns builtinsNs mb → (∀ x : Str, x ≠ "__name__" → mb x = bootBuiltins x) → s₁.heap.NoLimit → s₁.gens = #[] →
      s₁.heap.get? a = some { cls := .type "list", data := .seq vs.toArray } → IntsAre vs ns → ns.length ≤ n →
      codeAny (model l.prog w) callerA (.call (.ref fa) ⟨[.ref a], []⟩) (fun r s' => r = .ok (.ret (.bool true)) ∧ OldK s₁.heap s'.heap ∧ s'.os = s₁.os ∧ AllBare s'.gens) s₁) :
    PySem.W.WalkO q loose XP YP l.row.toRowW d [] (fun f vs => PySem.call f vs) := by
  refine Att.attach_callB hn hdf fun w s₀ s₁ mg mb fa o pm cd doc a vs ns G Y ho hd hcd hmg hobj hints hlen hbits hg => ?_
  exact F w mg mb fa a s₁ vs ns (hY w _ Y) G.T.g hmg G.T.b G.T.builtins G.T.nolimit hg hobj hints hlen
end Q
end

section
set_option Elab.async false
set_option linter.all false
set_option maxRecDepth 100000
/-! Core27: classes by their check: makers, properties, methods, own __iter__. -/
namespace Q
open PySem PySem.Spec PyProof.Rows PySem.Builtin
def okSets (B : CB) (self : Str) : List (String × IE) → List Stmt → Bool
  | [], [] => true
  | (f, ie) :: fs, .Assign [.Attribute (.Name x _) y _] e _ :: ts => x == self && y == Str.ofString f && noComp e && okE B ie e && okSets B self fs ts
  | _, _ => false
theorem sets_of {C : Oracle} {B : CB} {X : Fx} {self : Str} (H : EnvOk X B) (G : Glb X.gc) (O : Orc X C B) : ∀ (fs : List (String × IE)) (ts : List Stmt), okSets B self fs ts = true → SetsOk X C self fs ts
  | [], [], _ => .nil
  | [], _ :: _, h => by simp [okSets] at h
  | (f, ie) :: fs, [], h => by simp [okSets] at h
  | (f, ie) :: fs, t :: ts, h => by
    unfold okSets at h
    split at h
    · rename_i e1 e2; cases e1
    · rename_i f' ie' fs' x p1 y p2 e p3 ts' e1 e2
      cases e1; cases e2
      simp only [Bool.and_eq_true, beq_iff_eq] at h
      obtain ⟨⟨⟨⟨rfl, rfl⟩, hn⟩, he⟩, ht⟩ := h
      exact .cons (snd_of ie B X e H G O he).es (fun t l => swaps_of hn t l _) (sets_of H G O fs ts ht)
    · cases h
/-- the check of a maker -/
def okIni (B : CB) (self : Str) (ini : IIni) (body : List Stmt) : Bool :=
  okSs B ini.pre (body.take (body.length - ini.fs.length)) && okSets B self ini.fs (body.drop (body.length - ini.fs.length))
theorem clsF_of {K : PySem.W.Frag} {C : Addr} {ns : List String} (pg : PySem.W.plainGet K C Str.empty = true) (hd : PySem.W.hasDictIn K C = true) (no : ∀ n ∈ ns, PySem.W.findIn K (.ref C) (Str.ofString n) = some none) : ClsF K C ns := ⟨fun _ => pg, hd, no⟩
theorem mkC_of {gc : GC} {c : String} {C f : Addr} {ns : List String} (cls : gc.cls c = some C) (pg : PySem.W.plainGet gc.K C Str.empty = true) (hd : PySem.W.hasDictIn gc.K C = true) (po : PySem.W.plainOver gc.K C = true) (sa : PySem.W.findIn gc.K (.ref C) "__setattr__" = some (some (.builtin "object.__setattr__")))
    (mk : PySem.W.makesIn gc.K C = true) (kc : PySem.W.keepIn gc.K (.ref C) = true) (ai : PySem.W.findIn gc.K (.ref C) "__init__" = some (some (.ref f))) (ii : PySem.W.isFn gc.K (.ref f) = true)
    (no : ∀ n ∈ ns, PySem.W.findIn gc.K (.ref C) (Str.ofString n) = some none) (few : ns.length < 1000) (nd : (ns.map Str.ofString).Nodup) : MkC gc c C f ns :=
  ⟨cls, ⟨mk, ai, ii, kc⟩, clsF_of pg hd no, sa, po, fun n hn => L2.NoAttr.taker (no n hn), few, nd⟩
/-- a class, by its __init__'s check -/
theorem ini_of {gc : GC} {C : Oracle} {k : Nat} {c : String} {Ca f : Addr} {fd : FuncData} {x qual self : Str} {st : Stmt} {N ps : List Str} {ini : IIni} {fs : String → Bool} {gs : List (Str × Int)} {psF msF itF : String → String → Bool} (hgs : ∀ x i, gs.lookup x = some i → ∃ t, gc.mg x = some (.int i t))
    (M : MkC gc c Ca f (ini.fs.map (·.1))) (hm : gc.mg (Str.ofString c) = some (.ref Ca)) (F : L2.Fun gc.K x qual st f fd) (Sc : L2.FnScope N (self :: ps) (L2.defScope st))
    (hb : ∀ (kV doc pm : Value) (an : Option Addr) (cdv ct : Value) (us : List Value), us.length = (self :: ps).length → bindArgs (PySem.W.fnOf x qual (L2.defArgs st) (L2.defBody st) (L2.defScope st) .none kV doc pm an cdv ct) ⟨us, []⟩ = pure ((self :: ps).zip us))
    (hnp : ini.np = (self :: ps).length) (hnn : ini.nn = N.length) (hd : (self == ("__debug__" : Str)) = false) (hcl : (self == ("__classdict__" : Str)) = false)
    (ok : okIni ⟨N, (L2.defScope st).names, fun _ => true, fs, gs, psF, msF, itF⟩ self ini (L2.defBody st) = true) (G : Glb gc) (O : ∀ f, fs f = true → Cal gc k f (C f)) (OP : ∀ c f, psF c f = true → PropQ gc k c f (C (c ++ "." ++ f))) (OM : ∀ c f, msF c f = true → MethQ gc k c f (C (c ++ "." ++ f))) (OI : ∀ c f, itF c f = true → IterQ gc k c f) : Cal gc (k + 2) c (runI c C ini) := by
  obtain ⟨oc, od, kV, doc, pm, an, cdv, ct, osl, rfl, lk, hcd⟩ := F.ex
  unfold okIni at ok
  rw [Bool.and_eq_true] at ok
  refine ⟨Ca, hm, M.made.kp, make_q (preS := (L2.defBody st).take ((L2.defBody st).length - ini.fs.length)) (setS := (L2.defBody st).drop ((L2.defBody st).length - ini.fs.length)) M lk hcd Sc (hb kV doc pm an cdv ct) hnp hnn (List.take_append_drop _ _).symm hd hcl fun X e1 e2 e3 e4 e5 => ?_⟩
  subst e1
  have E := env_of (fs := fs) (gs := gs) (ps := psF) (ms := msF) (its := itF) hgs e2 e3 e5 Sc.kind
  have R : Orc X C ⟨N, (L2.defScope st).names, fun _ => true, fs, gs, psF, msF, itF⟩ := ⟨fun f hf => by rw [e4]; exact O f hf, fun c f h => by rw [e4]; exact OP c f h, fun c f h => by rw [e4]; exact OM c f h, fun c f h => by rw [e4]; exact OI c f h⟩
  exact ⟨ss_of ini.pre _ X _ E G R ok.1, sets_of E G R _ _ ok.2⟩
theorem propQ_of {gc : GC} {j k : Nat} {c f : String} {Ca pr fg : Addr} {rest : List Value} {F : List AV → List AV → FR} (cls : gc.cls c = some Ca) (a : PySem.W.findIn gc.K (.ref Ca) (Str.ofString f) = some (some (.ref pr))) (g : PySem.W.specialIn gc.K (.ref pr) "__get__" = some (some (.builtin "property.__get__")))
    (t : PySem.W.takesIn gc.K (.ref pr) = some true) (r : PySem.W.recIn gc.K pr "property" = some (.ref fg :: rest)) (h : FnQ gc j fg F) (hj : j + 1 ≤ k) : PropQ gc k c f F := fun C e => by
  rw [cls] at e; cases e
  exact ⟨pr, fg, rest, j, hj, a, g, t, r, h⟩
theorem methQ_of {gc : GC} {j k : Nat} {c f : String} {Ca fm : Addr} {F : List AV → List AV → FR} (cls : gc.cls c = some Ca) (a : PySem.W.findIn gc.K (.ref Ca) (Str.ofString f) = some (some (.ref fm))) (i : PySem.W.isFn gc.K (.ref fm) = true) (n : PySem.W.fnIn gc.K fm = true) (kp : PySem.W.keepIn gc.K (.ref fm) = true)
    (h : FnQ gc j fm F) (hj : j + 1 ≤ k) : MethQ gc k c f F := fun C e => by
  rw [cls] at e; cases e
  exact ⟨fm, j, hj, a, i, n, kp, h⟩
def iterOf : List Stmt → Option (Str × Str)
  | [.Return (some (.Call (.Name x _) [.Attribute (.Name self _) f _] [] _)) _] => if x == ("iter" : Str) then some (self, f) else none
  | _ => none
theorem iterOf_some {b : List Stmt} {self f : Str} (h : iterOf b = some (self, f)) : ∃ p1 p2 p3 p4 p5, b = [.Return (some (.Call (.Name "iter" p1) [.Attribute (.Name self p2) f p3] [] p4)) p5] := by
  unfold iterOf at h
  split at h
  · split at h
    · rename_i hx
      rw [beq_iff_eq] at hx
      subst hx
      cases h
      exact ⟨_, _, _, _, _, rfl⟩
    · cases h
  · cases h
theorem iterQ_of {gc : GC} {j k : Nat} {c f : String} {Ca fm : Addr} {fd : FuncData} {x qual self : Str} {st : Stmt} (cls : gc.cls c = some Ca) (a : PySem.W.findIn gc.K (.ref Ca) "__iter__" = some (some (.ref fm))) (i : PySem.W.isFn gc.K (.ref fm) = true) (F : L2.Fun gc.K x qual st fm fd) (Sc : L2.FnScope [self] [self] (L2.defScope st))
    (hb : ∀ (kV doc pm : Value) (an : Option Addr) (cdv ct : Value) (us : List Value), us.length = 1 → bindArgs (PySem.W.fnOf x qual (L2.defArgs st) (L2.defBody st) (L2.defScope st) .none kV doc pm an cdv ct) ⟨us, []⟩ = pure (([self] : List Str).zip us))
    (hd : (self == ("__debug__" : Str)) = false) (hcl : (self == ("__classdict__" : Str)) = false) (hgi : (L2.defScope st).names.lookup ("iter" : Str) = some .globalImplicit) (G : Glb gc) (hi : iterOf (L2.defBody st) = some (self, Str.ofString f)) (hj : j + 3 ≤ k) : IterQ gc k c f := fun C e => by
  rw [cls] at e; cases e
  obtain ⟨oc, od, kV, doc, pm, an, cdv, ct, osl, rfl, lk, hcd⟩ := F.ex
  obtain ⟨p1, p2, p3, p4, p5, e⟩ := iterOf_some hi
  have hb' := hb kV doc pm an cdv ct
  rw [e] at lk hb'
  exact ⟨fm, j + 1, by omega, a, i, fni_of (k := j) lk hcd Sc hb' hd hcl hgi (G "iter" (by decide))⟩
end Q
end

section
set_option linter.all false
set_option maxRecDepth 100000
set_option maxHeartbeats 1000000
/-! Com: what the laws' drawing defs do. -/
namespace Q
def d_law_draw : IFn := ⟨2, 3, [.asg (.nm 2) (.c (.int 0)), .ite (.cmp .gt (.bcall .len [.v 0]) (.c (.int 1))) [.ite (.cmp .ge (.ix (.v 0) (.c (.int 1))) (.bin .pow (.c (.int 10)) (.c (.int 18)))) [.asg (.nm 2) (.ix (.v 0) (.c (.int 1))), .aset 0 (.c (.int 1)) (.bin .fdiv (.v 2) (.v 1)), .ret (.bin .mod (.bcall .int [.v 2]) (.v 1))] [], .asg (.nm 2) (.meth (.v 0) .pop [.c (.int 1)])] [], .aset 0 (.c (.int 0)) (.bin .mod (.bcall .int [.bin .add (.bin .add (.bin .mul (.ix (.v 0) (.c (.int 0))) (.c (.int 48271))) (.bin .mul (.v 2) (.c (.int 69621)))) (.c (.int 11))]) (.c (.int 2147483647))), .ret (.bin .mod (.bcall .int [.bin .fdiv (.ix (.v 0) (.c (.int 0))) (.c (.int 8))]) (.v 1))]⟩
def d_law_char : IFn := ⟨1, 2, [.asg (.nm 1) (.c (.str [32, 33, 34, 35, 36, 38, 39, 40, 41, 42, 43, 44, 45, 46, 47, 48, 49, 50, 51, 52, 53, 54, 55, 56, 57, 58, 59, 60, 61, 62, 63, 64, 65, 66, 67, 68, 69, 70, 71, 72, 73, 74, 75, 76, 77, 78, 79, 80, 81, 82, 83, 84, 85, 86, 87, 88, 89, 90, 91, 92, 93, 94, 95, 96])), .asg (.nm 1) (.bin .add (.v 1) (.c (.str [97, 98, 99, 100, 101, 102, 103, 104, 105, 106, 107, 108, 109, 110, 111, 112, 113, 114, 115, 116, 117, 118, 119, 120, 121, 122, 123, 124, 125, 126]))), .ret (.ix (.v 1) (.bin .mod (.bcall .int [.v 0]) (.c (.int 94))))]⟩
def d_law_letters : IFn := ⟨2, 6, [.asg (.nm 2) (.lst []), .for_ (.nm 3) (.rng1 (.v 1)) [.asg (.nm 4) (.call "_law_draw" [.v 0, .bin .sub (.c (.int 94)) (.v 3)]), .for_ (.nm 5) (.bcall .sorted [.v 2]) [.ite (.cmp .ge (.v 4) (.v 5)) [.asg (.nm 4) (.bin .add (.v 4) (.c (.int 1)))] []], .app 2 (.v 4)], .ret (.lc (.call "_law_char" [.v 4]) [4] (.nm 4) (.v 2) [])]⟩
def d_law_word : IFn := ⟨3, 4, [.ret (.meth (.c (.str [])) .join [.lc (.ix (.v 1) (.call "_law_draw" [.v 0, .bcall .len [.v 1]])) [3] (.nm 3) (.rng1 (.v 2)) []])]⟩
/-- the drawing pool, at ref 0 -/
def Pool (R hp : List AV) : Prop := ∃ p : List Int, p ≠ [] ∧ hp = .lst (p.map .int) :: R
def drawOk (C : Oracle) : Prop := ∀ (R hp : List AV) (l : Int) (Q : AV → Bool → List AV → Prop) (E : AV → List AV → Prop), Pool R hp → 0 < l → l < 1000000 →
  (∀ r hp', 0 ≤ r → r < l → Pool R hp' → Q (.int r) false hp') → (C "_law_draw" [.ref 0, .int l] hp).W Q E
theorem draw_ok (C C' : Oracle) (h : C "_law_draw" = run C' d_law_draw) : drawOk C := by
  intro R hp l Q E hP hl hl2 k
  rw [h]
  obtain ⟨p, hp0, rfl⟩ := hP
  refine W_run rfl ?_
  have hn : l ≠ 0 := by omega
  have hn2 : l.natAbs < 1073741824 := by omega
  have hr : ∀ a : Int, 0 ≤ a.fmod l ∧ a.fmod l < l := fun a => ⟨Int.fmod_nonneg_of_pos _ hl, Int.fmod_lt_of_pos _ hl⟩
  match p, hp0 with
  | [a], _ =>
    simp only [d_law_draw, startS]
    refine W_cons ?_
    simp
    refine W_cons ?_
    simp
    refine W_cons ?_
    simp [atX, ixX, setL, small64]
    refine W_cons ?_
    simp [hn, atX]
    exact k _ _ (hr _).1 (hr _).2 ⟨[_], by simp, rfl⟩
  | a :: c :: r, _ =>
    have h1 : (1 : Int) < (r.length : Int) + 1 + 1 := by omega
    have h2 : (0 : Int) ≤ (r.length : Int) + 1 := by omega
    simp only [d_law_draw, startS]
    refine W_cons ?_
    simp
    refine W_cons ?_
    simp [h1]
    refine W_cons ?_
    simp [atX, small64]
    split
    · refine W_cons ?_
      simp [atX]
      refine W_cons ?_
      simp [hn, hn2, setL, ixX, h1]
      refine W_cons ?_
      simp [hn]
      exact k _ _ (hr _).1 (hr _).2 ⟨_ :: _ :: r, by simp, rfl⟩
    · refine W_cons ?_
      simp [hpop, ixX, h1]
      refine W_cons ?_
      simp [atX, ixX, setL, small64, h2]
      refine W_cons ?_
      simp [hn, atX]
      exact k _ _ (hr _).1 (hr _).2 ⟨_ :: r, by simp, rfl⟩

def chs1 : List Nat := [32, 33, 34, 35, 36, 38, 39, 40, 41, 42, 43, 44, 45, 46, 47, 48, 49, 50, 51, 52, 53, 54, 55, 56, 57, 58, 59, 60, 61, 62, 63, 64, 65, 66, 67, 68, 69, 70, 71, 72, 73, 74, 75, 76, 77, 78, 79, 80, 81, 82, 83, 84, 85, 86, 87, 88, 89, 90, 91, 92, 93, 94, 95, 96]
def chs2 : List Nat := [97, 98, 99, 100, 101, 102, 103, 104, 105, 106, 107, 108, 109, 110, 111, 112, 113, 114, 115, 116, 117, 118, 119, 120, 121, 122, 123, 124, 125, 126]
/-- the characters: 0 to 93 -/
def chX (n : Nat) : Nat := if n < 5 then n + 32 else n + 33
theorem chs_get : ∀ i : Fin 94, (chs1 ++ chs2)[i.val]? = some (chX i.val) := by decide +kernel
theorem d_char_eq : d_law_char = ⟨1, 2, [.asg (.nm 1) (.c (.str chs1)), .asg (.nm 1) (.bin .add (.v 1) (.c (.str chs2))), .ret (.ix (.v 1) (.bin .mod (.bcall .int [.v 0]) (.c (.int 94))))]⟩ := rfl
def charOk (C : Oracle) : Prop := ∀ (n : Int) (hp : List AV) (Q : AV → Bool → List AV → Prop) (E : AV → List AV → Prop),
  Q (.str [chX (n.fmod 94).toNat]) false hp → (C "_law_char" [.int n] hp).W Q E
theorem char_ok (C C' : Oracle) (h : C "_law_char" = run C' d_law_char) : charOk C := by
  intro n hp Q E k
  rw [h]
  have h0 : 0 ≤ n.fmod 94 := Int.fmod_nonneg_of_pos _ (by decide)
  have h1 : n.fmod 94 < 94 := Int.fmod_lt_of_pos _ (by decide)
  have h2 : (n.fmod 94).toNat < 94 := by omega
  have e := chs_get ⟨(n.fmod 94).toNat, h2⟩
  have hl : chs1.length + chs2.length ≤ LIM := by decide +kernel
  have ha : atX (chs1 ++ chs2) (n.fmod 94) = some (chX (n.fmod 94).toNat) := by unfold atX; rw [if_pos h0]; exact e
  refine W_run rfl ?_
  rw [d_char_eq]
  simp only [startS]
  refine W_cons ?_
  simp
  refine W_cons ?_
  simp [hl]
  refine W_cons ?_
  simp [ha]
  exact k
/-- texts of one sign -/
def chrs (cs : List Nat) : List AV := cs.map fun c => .str [c]
@[simp] theorem chrs_len (cs : List Nat) : (chrs cs).length = cs.length := by simp [chrs]
theorem intsOf_map : ∀ ns : List Int, intsOf (ns.map .int) = some ns
  | [] => rfl
  | n :: r => by rw [List.map_cons, intsOf, intsOf_map r]; rfl
theorem sortI_perm (ns : List Int) : (sortI ns).Perm ns := List.mergeSort_perm ..
theorem sortI_sorted (ns : List Int) : (sortI ns).Pairwise (· ≤ ·) := by
  have := List.pairwise_mergeSort (le := fun (a b : Int) => decide (a ≤ b)) (by simp; intros; omega) (by simp; intros; omega) ns
  simpa [sortI] using this
theorem chX_inj {a b : Nat} (h : chX a = chX b) : a = b := by unfold chX at h; split at h <;> split at h <;> omega
theorem map_split {α β : Type} {f : α → β} {l : List α} {d : List β} {x : β} {r : List β} (h : l.map f = d ++ x :: r) : ∃ d' x' r', l = d' ++ x' :: r' ∧ d = d'.map f ∧ x = f x' ∧ r = r'.map f := by
  obtain ⟨d', t, e1, e2, e3⟩ := List.map_eq_append_iff.mp h
  obtain ⟨x', r', e4, e5, e6⟩ := List.map_eq_cons_iff.mp e3
  exact ⟨d', x', r', by rw [e1, e4], e2.symm, e5.symm, e6.symm⟩
def lettersOk (C : Oracle) : Prop := ∀ (R hp : List AV) (n : Nat) (Q : AV → Bool → List AV → Prop) (E : AV → List AV → Prop), Pool R hp → n ≤ 94 →
  (∀ cs hp', cs.length = n → cs.Nodup → (∀ c ∈ cs, ∃ i, i < 94 ∧ c = chX i) → Pool R hp' → Q (.lst (chrs cs)) true hp') → (C "_law_letters" [.ref 0, .int n] hp).W Q E
theorem letters_ok (C C' : Oracle) (h : C "_law_letters" = run C' d_law_letters) (hd : drawOk C') (hc : charOk C') : lettersOk C := by
  intro R hp n Q E hP hn k
  rw [h]
  refine W_run rfl ?_
  simp only [d_law_letters, startS]
  refine W_cons ?_
  simp
  refine W_cons ?_
  simp
  refine ⟨by omega, ?_⟩
  refine W_for_rng (fun i s => ∃ (ns : List Int) (o3 o4 o5 : Option (AV × Bool)) (hp' : List AV), s = ⟨[some (.ref 0, false), some (.int n, false), some (.lst (ns.map .int), true), o3, o4, o5], hp'⟩ ∧ Pool R hp' ∧ ns.length = i ∧ ns.Nodup ∧ ∀ x ∈ ns, 0 ≤ x ∧ x < 94)
    ⟨[], none, none, none, hp, rfl, hP, rfl, List.nodup_nil, by simp⟩ ?_ ?_
  · rintro i s K hi ⟨ns, o3, o4, o5, hp', rfl, hP', rfl, hnd, hb⟩ hK
    simp
    refine W_cons ?_
    simp
    refine hd R hp' _ _ _ hP' (by omega) (by omega) fun r hp'' hr0 hr1 hP'' => ?_
    simp
    refine W_cons ?_
    simp [intsOf_map]
    refine W_for_inv (fun d s => ∃ (m : Int) (o5 : Option (AV × Bool)), s = ⟨[some (.ref 0, false), some (.int n, false), some (.lst (ns.map .int), true), some (.int ns.length, false), some (.int m, false), o5], hp''⟩ ∧ (AV.int m) ∉ d ∧ 0 ≤ m ∧ m < 94 - ns.length + d.length)
      ⟨r, o5, rfl, by simp, hr0, by simpa using hr1⟩ ?_ ?_
    · rintro d x r' s K2 e ⟨m, o5, rfl, hm, h0, h1⟩ hK2
      obtain ⟨d', x', r'', e1, rfl, rfl, rfl⟩ := map_split e
      have hs := sortI_sorted ns
      rw [e1] at hs
      have hle : ∀ y ∈ d', y ≤ x' := fun y hy => (List.pairwise_append.mp hs).2.2 y hy x' (by simp)
      simp
      refine W_cons ?_
      simp
      rw [List.length_map] at h1
      split
      · refine W_cons ?_
        simp
        refine hK2 _ ⟨_, _, rfl, ?_, by omega, by simp; omega⟩
        simp
        refine ⟨fun hy => ?_, by omega⟩
        have := hle _ hy
        omega
      · refine hK2 _ ⟨_, _, rfl, ?_, by omega, by simp; omega⟩
        simp at hm
        simp
        exact ⟨hm, by omega⟩
    · rintro s ⟨m, o5, rfl, hm, h0, h1⟩
      have hm' : m ∉ ns := by
        intro hmem
        exact hm (List.mem_map.mpr ⟨m, (sortI_perm ns).mem_iff.mpr hmem, rfl⟩)
      simp [(sortI_perm ns).length_eq] at h1
      simp
      refine W_cons ?_
      simp
      refine ⟨by show ns.length < 16777216; omega, hK _ ⟨ns ++ [m], _, _, _, _, by rw [List.map_append]; rfl, hP'', by simp, ?_, ?_⟩⟩
      · rw [List.nodup_append]
        exact ⟨hnd, by simp, fun a ha b hb e => by simp at hb; subst hb; exact hm' (e ▸ ha)⟩
      · intro x hx
        rcases List.mem_append.mp hx with hx | hx
        · exact hb x hx
        · simp at hx; subst hx; omega
  · rintro s ⟨ns, o3, o4, o5, hp', rfl, hP', hln, hnd, hb⟩
    simp
    refine W_cons ?_
    simp
    refine W_lc_inv (fun d acc s => ∃ ms : List Int, d = ms.map .int ∧ acc = chrs (ms.map fun m => chX (m.fmod 94).toNat) ∧ s = ⟨[some (.ref 0, false), some (.int n, false), some (.lst (ns.map .int), false), o3, none, o5], hp'⟩) ⟨[], rfl, rfl, rfl⟩ (by simp; show ns.length ≤ 16777216; omega) ?_ ?_ ?_
    · rintro d acc s ⟨ms, rfl, rfl, rfl⟩
      simp
    · rintro d x r acc s K e ⟨ms, rfl, rfl, rfl⟩ hK
      obtain ⟨d', x', r'', e1, e2, rfl, rfl⟩ := map_split e
      simp
      refine hc x' hp' _ _ ?_
      simp
      exact hK _ _ ⟨ms ++ [x'], by simp, by simp [chrs], rfl⟩
    · rintro acc s ⟨ms, e, rfl, rfl⟩
      have e : ns = ms := (List.map_inj_right (fun a b h => by injection h)).mp e
      subst e
      simp
      have hf : ∀ x ∈ ns, x.fmod 94 = x := fun x hx => Int.fmod_eq_of_lt (hb x hx).1 (hb x hx).2
      refine k _ hp' (by simp [hln]) ?_ ?_ hP'
      · rw [List.nodup_iff_pairwise_ne, List.pairwise_map]
        refine List.Pairwise.imp_of_mem (fun ha hb' hne e => ?_) hnd
        have := chX_inj e
        rw [hf _ ha, hf _ hb'] at this
        have := hb _ ha
        have := hb _ hb'
        omega
      · intro c hc'
        obtain ⟨m, hm, rfl⟩ := List.mem_map.mp hc'
        have := hb m hm
        exact ⟨(m.fmod 94).toNat, by rw [hf m hm]; omega, rfl⟩

theorem strs_of {m : Nat} : ∀ {ys : List AV}, (∀ y ∈ ys, ∃ t : Tx, y = .str t ∧ t.length ≤ m) → ∃ ts : List Tx, ys = ts.map .str ∧ strsOf ys = some ts ∧ (ts.map (·.length)).sum ≤ ys.length * m
  | [], _ => ⟨[], rfl, rfl, Nat.zero_le _⟩
  | y :: ys, h => by
    obtain ⟨t, rfl, ht⟩ := h y List.mem_cons_self
    obtain ⟨ts, h0, h1, h3⟩ := strs_of fun z hz => h z (List.mem_cons_of_mem _ hz)
    refine ⟨t :: ts, by rw [List.map_cons, ← h0], by simp [strsOf, h1], ?_⟩
    rw [List.map_cons, List.sum_cons, List.length_cons, Nat.succ_mul]
    omega
theorem strsOf_map : ∀ ts : List Tx, strsOf (ts.map .str) = some ts
  | [] => rfl
  | t :: r => by rw [List.map_cons, strsOf, strsOf_map r]; rfl
theorem join_nil : ∀ ts : List Tx, joinX [] ts = ts.flatten
  | [] => rfl
  | [t] => by simp [joinX]
  | t :: u :: r => by
    rw [show joinX [] (t :: u :: r) = t ++ [] ++ joinX [] (u :: r) from rfl, List.append_nil, join_nil (u :: r)]
    rfl
theorem atX_mem {xs : List AV} {r : Int} (h0 : 0 ≤ r) (h1 : r < xs.length) : ∃ x, atX xs r = some x ∧ x ∈ xs := by
  have h : r.toNat < xs.length := by omega
  exact ⟨xs[r.toNat], by unfold atX; rw [if_pos h0, List.getElem?_eq_getElem h], List.getElem_mem h⟩
/-- a text drawn from parts -/
def pickOk (C : Oracle) (f : String) : Prop := ∀ (R hp xs : List AV) (n : Int) (m : Nat) (Q : AV → Bool → List AV → Prop) (E : AV → List AV → Prop), Pool R hp → xs ≠ [] → xs.length < 1000000 →
  (∀ y ∈ xs, ∃ t : Tx, y = .str t ∧ t.length ≤ m) → n ≤ 1000000 → -(2 ^ 62) ≤ n → n.toNat * m ≤ 16000000 →
  (∀ (ts : List Tx) hp', ts.length = n.toNat → (∀ t ∈ ts, AV.str t ∈ xs) → Pool R hp' → Q (.str ts.flatten) false hp') → (C f [.ref 0, .lst xs, .int n] hp).W Q E
theorem pick_ok (C C' : Oracle) (f : String) (h : C f = run C' d_law_word) (hd : drawOk C') : pickOk C f := by
  intro R hp xs n m Q E hP hx hxl ht hn hn2 hm k
  rw [h]
  refine W_run rfl ?_
  simp only [d_law_word, startS]
  refine W_cons ?_
  simp
  have hxp : (0 : Int) < xs.length := by
    cases xs with
    | nil => exact absurd rfl hx
    | cons _ _ => simp
  refine ⟨by simpa using hn2, by omega, ?_⟩
  refine W_lc_rng (fun k acc s => ∃ hp', s = ⟨[some (.ref 0, false), some (.lst xs, false), some (.int n, false), none], hp'⟩ ∧ acc.length = k ∧ Pool R hp' ∧ ∀ y ∈ acc, y ∈ xs) ⟨hp, rfl, rfl, hP, by simp⟩ (by show n.toNat ≤ 16777216; omega) ?_ ?_ ?_
  · rintro k acc s ⟨hp', rfl, h, _⟩
    omega
  · rintro i acc s K hi ⟨hp', rfl, hl, hP', hy⟩ hK
    simp
    refine hd R hp' _ _ _ hP' hxp (by omega) fun r hp'' h0 h1 hP'' => ?_
    obtain ⟨x, hx1, hx2⟩ := atX_mem h0 h1
    simp [hx1]
    refine hK _ _ ⟨hp'', rfl, by simp [hl], hP'', ?_⟩
    intro y hy'
    rcases List.mem_append.mp hy' with h | h
    · exact hy y h
    · simp at h; subst h; exact hx2
  · rintro acc s ⟨hp', rfl, hl, hP', hy⟩
    obtain ⟨ts, e0, e1, e3⟩ := strs_of fun y h => ht y (hy y h)
    have hll : (ts.map (·.length)).sum ≤ LIM := by show _ ≤ 16777216; rw [hl] at e3; omega
    simp [e1, hll, join_nil]
    refine k ts hp' (by rw [← hl, e0]; simp) (fun t h => hy _ (by rw [e0]; exact List.mem_map_of_mem h)) hP'
/-- a text drawn from letters -/
def wordOk (C : Oracle) (f : String) : Prop := ∀ (R hp : List AV) (cs : List Nat) (n : Int) (Q : AV → Bool → List AV → Prop) (E : AV → List AV → Prop), Pool R hp → cs ≠ [] → cs.length < 1000000 → n ≤ 1000000 → -(2 ^ 62) ≤ n →
  (∀ (t : Tx) hp', t.length = n.toNat → (∀ c ∈ t, c ∈ cs) → Pool R hp' → Q (.str t) false hp') → (C f [.ref 0, .lst (chrs cs), .int n] hp).W Q E
theorem flat_len1 : ∀ (ts : List Tx) (cs : List Nat), (∀ t ∈ ts, AV.str t ∈ chrs cs) → ts.flatten.length = ts.length ∧ ∀ c ∈ ts.flatten, c ∈ cs
  | [], _, _ => ⟨rfl, by simp⟩
  | t :: r, cs, h => by
    obtain ⟨c, hc, e⟩ := List.mem_map.mp (h t List.mem_cons_self)
    obtain ⟨h1, h2⟩ := flat_len1 r cs fun t ht => h t (List.mem_cons_of_mem _ ht)
    injection e with e
    subst e
    refine ⟨by simp [h1], fun d hd => ?_⟩
    rcases List.mem_append.mp hd with h | h
    · simp at h; subst h; exact hc
    · exact h2 d h
theorem word_ok {C : Oracle} {f : String} (h : pickOk C f) : wordOk C f := by
  intro R hp cs n Q E hP hx hxl hn hn2 k
  refine h R hp (chrs cs) n 1 Q E hP (by simpa [chrs] using hx) (by simpa using hxl) ?_ hn hn2 (by omega) fun ts hp' hl ht hP' => ?_
  · intro y hy
    obtain ⟨c, _, rfl⟩ := List.mem_map.mp hy
    exact ⟨[c], rfl, Nat.le_refl _⟩
  · obtain ⟨h1, h2⟩ := flat_len1 ts cs ht
    exact k _ hp' (h1.trans hl) h2 hP'
end Q
end

section
set_option linter.all false
set_option maxRecDepth 100000
set_option maxHeartbeats 1000000
/-! Prog: what the program's defs about one step do. -/
namespace Q
theorem eqA_str (a b : Tx) : eqA (.str a) (.str b) = some (decide (a = b)) := by
  unfold eqA
  simp [plain, plainN]
theorem eqA_int (a b : Int) : eqA (.int a) (.int b) = some (decide (a = b)) := by
  unfold eqA
  simp [plain, plainN]
theorem clamp_nn {n d : Nat} {v : Int} (h : 0 ≤ v) : clampX n d (.int v) = some (min v.toNat n) := by
  show some (if v < 0 then _ else _) = _
  rw [if_neg (by omega)]
theorem clamp_neg {n d : Nat} {v : Int} (h : v < 0) : clampX n d (.int v) = some (v + n).toNat := by
  show some (if v < 0 then _ else _) = _
  rw [if_pos h]
theorem clamp_non {n d : Nat} : clampX n d .non = some d := rfl
/-- xs[a:], xs[:b], with natural bounds -/
theorem cut_from {α : Type} (xs : List α) (a : Nat) : cutX xs (.int a) .non = some (xs.drop a) := by
  unfold cutX
  rw [clamp_nn (by omega), clamp_non]
  show some _ = some _
  congr 1
  rcases Nat.le_total a xs.length with h | h
  · rw [show min (a : Int).toNat xs.length = a by omega, List.take_of_length_le (by simp)]
  · rw [show min (a : Int).toNat xs.length = xs.length by omega, List.drop_eq_nil_of_le h, List.drop_eq_nil_of_le (Nat.le_refl _)]; simp
theorem cut_to {α : Type} (xs : List α) (b : Nat) : cutX xs .non (.int b) = some (xs.take b) := by
  unfold cutX
  rw [clamp_non, clamp_nn (by omega)]
  show some _ = some _
  congr 1
  rw [List.drop_zero]
  rcases Nat.le_total b xs.length with h | h
  · rw [show min (b : Int).toNat xs.length - 0 = b by omega]
  · rw [show min (b : Int).toNat xs.length - 0 = xs.length by omega, List.take_of_length_le (Nat.le_refl _), List.take_of_length_le h]
theorem atX_nat {α : Type} (xs : List α) (i : Nat) (x : α) (h : xs[i]? = some x) : atX xs (i : Int) = some x := by
  unfold atX
  rw [if_pos (by omega)]
  exact h
theorem atX_ints (ls : List Int) {r : Int} (h0 : 0 ≤ r) (h1 : r < ls.length) : ∃ l, l ∈ ls ∧ atX (ls.map AV.int) r = some (AV.int l) := by
  have h : r.toNat < ls.length := by omega
  refine ⟨ls[r.toNat], List.getElem_mem h, ?_⟩
  unfold atX
  simp [h0, h]
theorem chrs_mem {cs : List Nat} {y : AV} (h : y ∈ chrs cs) : ∃ c, c ∈ cs ∧ y = .str [c] := by
  obtain ⟨c, hc, e⟩ := List.mem_map.mp h
  exact ⟨c, hc, e.symm⟩
theorem atX_chrs {cs : List Nat} {r : Int} (h0 : 0 ≤ r) (h1 : r < cs.length) : ∃ c, c ∈ cs ∧ cs[r.toNat]? = some c ∧ atX (chrs cs) r = some (.str [c]) := by
  have h : r.toNat < cs.length := by omega
  refine ⟨cs[r.toNat], List.getElem_mem h, List.getElem?_eq_getElem h, ?_⟩
  unfold atX chrs
  simp [h0, h]
theorem atX_chrsN {cs : List Nat} {i : Nat} (h : i < cs.length) : ∃ c, c ∈ cs ∧ cs[i]? = some c ∧ atX (chrs cs) (i : Int) = some (.str [c]) := by
  refine ⟨cs[i], List.getElem_mem h, List.getElem?_eq_getElem h, ?_⟩
  unfold atX chrs
  simp [h]
theorem patB_any (v : AV) : patB .any v = some (some []) := by rw [patB]
theorem patB_cap (i : Nat) (v : AV) : patB (.cap i) v = some (some [(i, v)]) := by rw [patB]
theorem patB_val (t : Tx) (v : AV) : patB (.val t) v = (eqA v (.str t)).map fun b => if b then some [] else none := by rw [patB]
theorem patB_tup (ps : List IPat) (xs : List AV) : patB (.seq ps) (.tup xs) = if xs.length = ps.length then patsB ps xs else some none := by rw [patB]
def patK (o : Option (Option (List (Nat × AV)))) (f : Option (Option (List (Nat × AV)))) : Option (Option (List (Nat × AV))) :=
  match o with
  | some (some l) => match f with
      | some (some m) => some (some (l ++ m))
      | some none => some none
      | none => none
  | some none => some none
  | none => none
@[simp] theorem patK_ss (l m : List (Nat × AV)) : patK (some (some l)) (some (some m)) = some (some (l ++ m)) := rfl
@[simp] theorem patK_sn (l : List (Nat × AV)) : patK (some (some l)) (some none) = some none := rfl
@[simp] theorem patK_n (f) : patK (some none) f = some none := rfl
theorem patsB_nil : patsB [] [] = some (some []) := by rw [patsB]
theorem patsB_cons (p : IPat) (ps : List IPat) (x : AV) (xs : List AV) : patsB (p :: ps) (x :: xs) = patK (patB p x) (patsB ps xs) := by rw [patsB]; rfl
theorem flat_le {m : Nat} : ∀ {ts : List Tx}, (∀ t ∈ ts, t.length ≤ m) → ts.flatten.length ≤ ts.length * m
  | [], _ => by simp
  | t :: r, h => by
    have h1 := h t List.mem_cons_self
    have h2 := flat_le fun t ht => h t (List.mem_cons_of_mem _ ht)
    rw [List.flatten_cons, List.length_append, List.length_cons, Nat.succ_mul]
    omega
theorem sum_flat (ts : List Tx) : (ts.map (·.length)).sum = ts.flatten.length := List.length_flatten.symm
theorem replS_len (old new : Tx) : ∀ (t : Tx) (k : Nat), (replS old new k t).length ≤ t.length * (new.length + 1)
  | [], k => by cases k <;> simp [replS]
  | c :: r, 0 => by
    rw [replS]
    split
    · have := replS_len old new r (old.length - 1)
      rw [List.length_append, List.length_cons, Nat.succ_mul]; omega
    · have := replS_len old new r 0
      rw [List.length_cons, List.length_cons, Nat.succ_mul]; omega
  | c :: r, k + 1 => by
    rw [replS]
    have := replS_len old new r k
    rw [List.length_cons, Nat.succ_mul]; omega

/-! ### steps -/
def tR : Tx := [114, 101, 112, 108, 97, 99, 101]
def tS : Tx := [115, 113, 117, 101, 101, 122, 101]
def tM : Tx := [109, 97, 112]
inductive Stp where
  | repl (old new : Tx)
  | squ (c : Nat)
  | map (ps : List (Nat × Tx))
def pairAV (p : Nat × Tx) : AV := .tup [.str [p.1], .str p.2]
def Stp.av : Stp → AV
  | .repl old new => .tup [.str tR, .str old, .str new]
  | .squ c => .tup [.str tS, .str [c]]
  | .map ps => .tup [.str tM, .tup (ps.map pairAV)]
/-- within the document's limits -/
def Stp.ok : Stp → Prop
  | .repl old new => old ≠ [] ∧ old.length ≤ 20 ∧ new.length ≤ 40
  | .squ _ => True
  | .map ps => (ps.map (·.1)).Nodup ∧ (∀ p ∈ ps, p.2.length ≤ 40) ∧ ps.length ≤ 100
/-- its signs are of cs -/
def Stp.of (cs : List Nat) : Stp → Prop
  | .repl old new => (∀ c ∈ old, c ∈ cs) ∧ ∀ c ∈ new, c ∈ cs
  | .squ c => c ∈ cs
  | .map ps => ∀ p ∈ ps, p.1 ∈ cs ∧ ∀ c ∈ p.2, c ∈ cs
/-- squeeze; h: the sign before was c -/
def squS (c : Nat) : Bool → Tx → Tx
  | _, [] => []
  | h, x :: r => if x = c then (if h then squS c true r else x :: squS c true r) else x :: squS c false r
def squX (c : Nat) (t : Tx) : Tx := squS c false t
def lookX : List (Nat × Tx) → Nat → Tx
  | [], c => [c]
  | p :: r, c => if p.1 = c then p.2 else lookX r c
def mapX (ps : List (Nat × Tx)) (t : Tx) : Tx := (t.map (lookX ps)).flatten
def Stp.run : Stp → Tx → Tx
  | .repl old new, t => replX old new t
  | .squ c, t => squX c t
  | .map ps, t => mapX ps t
theorem squS_len (c : Nat) : ∀ (t : Tx) (h : Bool), (squS c h t).length ≤ t.length
  | [], _ => by simp [squS]
  | x :: r, h => by
    rw [squS]
    have h1 := squS_len c r true
    have h2 := squS_len c r false
    split
    · split <;> simp <;> omega
    · simp; omega
theorem look_len {ps : List (Nat × Tx)} (h : ∀ p ∈ ps, p.2.length ≤ 40) (c : Nat) : (lookX ps c).length ≤ 40 := by
  induction ps with
  | nil => simp [lookX]
  | cons p r ih =>
    rw [lookX]
    split
    · exact h p List.mem_cons_self
    · exact ih fun p hp => h p (List.mem_cons_of_mem _ hp)
theorem mapX_len {ps : List (Nat × Tx)} (h : ∀ p ∈ ps, p.2.length ≤ 40) (t : Tx) : (mapX ps t).length ≤ t.length * 40 := by
  unfold mapX
  have := flat_le (m := 40) (ts := t.map (lookX ps)) fun x hx => by
    obtain ⟨c, _, rfl⟩ := List.mem_map.mp hx
    exact look_len h c
  simpa using this
theorem Stp.run_len {st : Stp} (h : st.ok) (t : Tx) : (st.run t).length ≤ t.length * 41 := by
  cases st with
  | repl old new =>
    have h1 := replS_len old new t 0
    have h2 : t.length * (new.length + 1) ≤ t.length * 41 := Nat.mul_le_mul_left _ (by have := h.2.2; omega)
    show (replS old new 0 t).length ≤ _
    omega
  | squ c =>
    have := squS_len c t false
    show (squS c false t).length ≤ _
    omega
  | map ps =>
    have := mapX_len h.2.1 t
    show (mapX ps t).length ≤ _
    omega
theorem pairsOf_av : ∀ ps : List (Nat × Tx), pairsOf (ps.map pairAV) = some (ps.map fun p => ([p.1], AV.str p.2))
  | [] => rfl
  | p :: r => by
    rw [List.map_cons, pairAV, pairsOf, pairsOf_av r]
    rfl
theorem dget_av : ∀ (ps : List (Nat × Tx)) (c : Nat), dgetX (ps.map fun p => AV.str [p.1]) (ps.map fun p => AV.str p.2) [c] (.str [c]) = .str (lookX ps c)
  | [], c => by simp [dgetX, lookX]
  | p :: r, c => by
    rw [List.map_cons, List.map_cons, dgetX, lookX, dget_av r c]
    by_cases h : p.1 = c
    · rw [if_pos h, if_pos (by rw [h])]
    · rw [if_neg h, if_neg (by simpa using h)]
theorem nodup_sing {ps : List (Nat × Tx)} (h : (ps.map (·.1)).Nodup) : ((ps.map fun p => (([p.1] : Tx), AV.str p.2)).map (·.1)).Nodup := by
  rw [List.map_map, List.nodup_iff_pairwise_ne, List.pairwise_map]
  rw [List.nodup_iff_pairwise_ne, List.pairwise_map] at h
  exact h.imp fun hne e => hne (by simpa using e)
theorem dctO_av {ps : List (Nat × Tx)} (h : (ps.map (·.1)).Nodup) : dctO (ps.map fun p => (([p.1] : Tx), AV.str p.2)) = some (.dct (ps.map fun p => AV.str [p.1]) (ps.map fun p => AV.str p.2), false) := by
  unfold dctO
  rw [if_pos (nodup_sing h), List.map_map, List.map_map]
  rfl

/-! ### the defs -/
def dmapped : IFn := ⟨2, 4, [.asg (.nm 2) (.bcall .dict [.v 1]), .ret (.meth (.c (.str [])) .join [.lc (.meth (.v 2) .get [.v 3, .v 3]) [3] (.nm 3) (.v 0) []])]⟩
def dsqueezed : IFn := ⟨2, 5, [.asg (.nm 2) (.lst []), .asg (.nm 3) (.c (.str [])), .for_ (.nm 4) (.v 0) [.ite (.or_ [.cmp .ne (.v 4) (.v 1), .cmp .ne (.v 3) (.v 1)]) [.app 2 (.v 4)] [], .asg (.nm 3) (.v 4)], .ret (.meth (.c (.str [])) .join [.v 2])]⟩
def drun_step : IFn := ⟨2, 6, [.mtch (.v 0) [.seq [.val [114, 101, 112, 108, 97, 99, 101], .cap 2, .cap 3], .seq [.val [115, 113, 117, 101, 101, 122, 101], .cap 4], .seq [.any, .cap 5]] [[.ret (.meth (.v 1) .replace [.v 2, .v 3])], [.ret (.call "squeezed" [.v 1, .v 4])], [.ret (.call "mapped" [.v 1, .v 5])]]]⟩
theorem strsOf_chrs (t : Tx) : strsOf (chrs t) = some (t.map fun c => [c]) := by
  have : chrs t = (t.map fun c => ([c] : Tx)).map .str := by simp [chrs]
  rw [this, strsOf_map]
theorem sum_sing (t : Tx) : ((t.map fun c => ([c] : Tx)).map (·.length)).sum = t.length := by
  rw [sum_flat]
  simp [← List.flatMap_def]
theorem flat_sing (t : Tx) : (t.map fun c => ([c] : Tx)).flatten = t := by simp [← List.flatMap_def]
theorem squeezed_ok {C C' : Oracle} (h : C "squeezed" = run C' dsqueezed) (t : Tx) (c : Nat) (hp : List AV) (Q : AV → Bool → List AV → Prop) (E : AV → List AV → Prop) (hb : t.length ≤ 1000000)
    (k : Q (.str (squX c t)) false hp) : (C "squeezed" [.str t, .str [c]] hp).W Q E := by
  rw [h]
  refine W_run rfl ?_
  simp only [dsqueezed, startS]
  refine W_cons ?_
  simp
  refine W_cons ?_
  simp
  refine W_cons ?_
  simp
  refine W_for_inv (fun d s => ∃ (d' ps bf : Tx) (o4 : Option (AV × Bool)), d = chrs d' ∧ s = ⟨[some (.str t, false), some (.str [c], false), some (.lst (chrs ps), true), some (.str bf, false), o4], hp⟩ ∧ ps.length ≤ d'.length ∧ d'.length ≤ t.length ∧
      ps ++ squS c (decide (bf = [c])) (t.drop d'.length) = squX c t) ⟨[], [], [], none, rfl, rfl, Nat.le_refl _, Nat.zero_le _, by simp [squX]⟩ ?_ ?_
  · rintro d x r s K e ⟨d', ps, bf, o4, rfl, rfl, h1, h2, h3⟩ hK
    obtain ⟨d2, x', r', e1, e2, rfl, rfl⟩ := map_split e
    have e2 : d' = d2 := (List.map_inj_right (fun a b h => by simpa using h)).mp e2
    subst e2
    have hd : t.drop d'.length = x' :: r' := by rw [e1]; simp
    have hl : d'.length + 1 ≤ t.length := by rw [e1]; simp
    rw [hd, squS] at h3
    simp
    refine W_cons ?_
    simp [eqA_str]
    have fin : ∀ ps2 : Tx, ps2.length ≤ d'.length + 1 → ps2 ++ squS c (decide (x' = c)) r' = squX c t → (exs C' [.asg (.nm 3) (.v 4)] ⟨[some (.str t, false), some (.str [c], false), some (.lst (chrs ps2), true), some (.str bf, false), some (.str [x'], false)], hp⟩).W
        (fun fl s => flL fl s K fun fl s => flK fl s (fun s => (exs C' [.ret (.meth (.c (.str [])) .join [.v 2])] s).W (fun fl s => rtW fl s Q) fun x s => E x s.hp) fun fl s => rtW fl s Q) (fun x s => E x s.hp) := fun ps2 q1 q2 => by
      refine W_cons ?_
      simp
      refine hK _ ⟨d' ++ [x'], ps2, [x'], _, by simp [chrs], rfl, by simpa using q1, by simpa using hl, ?_⟩
      have : t.drop (d' ++ [x']).length = r' := by
        rw [e1]; simp
      rw [this]
      simpa using q2
    by_cases hx : x' = c
    · subst hx
      rw [if_pos rfl] at h3
      by_cases hb : bf = [x']
      · simp [hb] at h3 ⊢
        have := fin ps (by omega) (by simpa using h3)
        rw [hb] at this
        exact this
      · simp [hb] at h3 ⊢
        refine W_cons ?_
        simp [hb]
        refine ⟨by omega, ?_⟩
        have := fin (ps ++ [x']) (by simp; omega) (by simpa using h3)
        simpa [chrs] using this
    · rw [if_neg hx] at h3
      simp [hx]
      refine W_cons ?_
      simp [hx]
      refine ⟨by omega, ?_⟩
      have := fin (ps ++ [x']) (by simp; omega) (by simpa [hx] using h3)
      simpa [chrs] using this
  · rintro s ⟨d', ps, bf, o4, e, rfl, h1, h2, h3⟩
    have e : t = d' := (List.map_inj_right (fun a b h => by simpa using h)).mp e
    subst e
    rw [List.drop_length, squS, List.append_nil] at h3
    subst h3
    simp
    refine W_cons ?_
    simp only [W_ret, W_meth, W_c, recvOk_s, W_evB_cons, W_evB_nil, W_v, get_mk]
    simp [strsOf_chrs, join_nil]
    refine ⟨?_, ?_⟩
    · refine Nat.le_trans (Nat.le_of_eq (m := (squX c t).length) ?_) (by omega)
      rw [← List.map_map]
      exact sum_sing _
    · rw [flat_sing]; exact k
theorem mapped_ok {C C' : Oracle} (h : C "mapped" = run C' dmapped) (t : Tx) (ps : List (Nat × Tx)) (hp : List AV) (Q : AV → Bool → List AV → Prop) (E : AV → List AV → Prop) (hn : (ps.map (·.1)).Nodup) (hl : ∀ p ∈ ps, p.2.length ≤ 40) (hb : t.length ≤ 400000)
    (k : Q (.str (mapX ps t)) false hp) : (C "mapped" [.str t, .tup (ps.map pairAV)] hp).W Q E := by
  rw [h]
  refine W_run rfl ?_
  simp only [dmapped, startS]
  refine W_cons ?_
  simp [pairsOf_av, dctO_av hn]
  refine W_cons ?_
  simp
  refine W_lc_inv (fun d acc s => ∃ d' : Tx, d = chrs d' ∧ acc = (d'.map (lookX ps)).map .str ∧ s = ⟨[some (.str t, false), some (.tup (ps.map pairAV), false), some (.dct (ps.map fun p => AV.str [p.1]) (ps.map fun p => AV.str p.2), false), none], hp⟩) ⟨[], rfl, rfl, rfl⟩ (by simp; omega) ?_ ?_ ?_
  · rintro d acc s ⟨d', rfl, rfl, rfl⟩
    simp
  · rintro d x r acc s K e ⟨d', rfl, rfl, rfl⟩ hK
    obtain ⟨d2, x', r', e1, e2, rfl, rfl⟩ := map_split e
    simp [dget_av]
    exact hK _ _ ⟨d' ++ [x'], by simp [chrs], by simp, rfl⟩
  · rintro acc s ⟨d', e, rfl, rfl⟩
    have e : t = d' := (List.map_inj_right (fun a b h => by simpa using h)).mp e
    subst e
    have hm := mapX_len hl t
    have hs : strsOf (t.map (AV.str ∘ lookX ps)) = some (t.map (lookX ps)) := by rw [← List.map_map]; exact strsOf_map _
    simp [hs, join_nil]
    refine ⟨?_, k⟩
    refine Nat.le_trans (Nat.le_of_eq (m := (mapX ps t).length) ?_) (by omega)
    rw [← List.map_map]
    exact sum_flat _
/-- run_step -/
def runOk (C : Oracle) : Prop := ∀ (st : Stp) (t : Tx) (hp : List AV) (Q : AV → Bool → List AV → Prop) (E : AV → List AV → Prop), st.ok → t.length ≤ 100000 → Q (.str (st.run t)) false hp → (C "run_step" [st.av, .str t] hp).W Q E
theorem run_ok {C C' C1 C2 : Oracle} (h : C "run_step" = run C' drun_step) (hs : C' "squeezed" = run C1 dsqueezed) (hm : C' "mapped" = run C2 dmapped) : runOk C := by
  intro st t hp Q E ho ht k
  rw [h]
  cases st with
  | repl old new =>
    refine W_run rfl ?_
    simp only [drun_step, startS, Stp.av]
    refine W_cons ?_
    simp [W_exM_cons, patB_tup, patB_any, patB_cap, patB_val, patsB_cons, patsB_nil, eqA_str, tR]
    refine W_cons ?_
    simp [ho.1]
    refine ⟨?_, k⟩
    have := Stp.run_len (st := .repl old new) ho t
    simp only [Stp.run] at this
    omega
  | squ c =>
    refine W_run rfl ?_
    simp only [drun_step, startS, Stp.av]
    refine W_cons ?_
    simp [W_exM_cons, patB_tup, patB_any, patB_cap, patB_val, patsB_cons, patsB_nil, eqA_str, tR, tS]
    refine W_cons ?_
    simp
    refine squeezed_ok hs t c hp _ _ (by omega) ?_
    simp
    exact k
  | map ps =>
    refine W_run rfl ?_
    simp only [drun_step, startS, Stp.av]
    refine W_cons ?_
    simp [W_exM_cons, patB_tup, patB_any, patB_cap, patB_val, patsB_cons, patsB_nil, eqA_str, tR, tS, tM]
    refine W_cons ?_
    simp
    refine mapped_ok hm t ps hp _ _ ho.1 ho.2.1 (by omega) ?_
    simp
    exact k
end Q
end

section
set_option linter.all false
set_option maxRecDepth 100000
set_option maxHeartbeats 1000000
/-! Draw: what the laws' defs about one step do. -/
namespace Q
def d_law_mapped : IFn := ⟨2, 6, [.asg (.nm 2) (.c (.str [])), .for_ (.nm 3) (.v 1) [.asg (.nm 4) (.v 3), .for_ (.nm 5) (.v 0) [.ite (.cmp .eq (.ix (.v 5) (.c (.int 0))) (.v 3)) [.asg (.nm 4) (.ix (.v 5) (.c (.int 1)))] []], .asg (.nm 2) (.bin .add (.v 2) (.v 4))], .ret (.v 2)]⟩
def d_law_squeezed : IFn := ⟨2, 4, [.asg (.nm 2) (.c (.str [])), .for_ (.nm 3) (.v 1) [.ite (.or_ [.cmp .ne (.v 3) (.v 0), .cmp .ne (.sl (.v 2) (.neg (.c (.int 1))) (.c .non)) (.v 0)]) [.asg (.nm 2) (.bin .add (.v 2) (.v 3))] []], .ret (.v 2)]⟩
theorem cut_last {α : Type} (xs : List α) : cutX xs (.int (-1)) .non = some (xs.drop (xs.length - 1)) := by
  unfold cutX
  rw [clamp_neg (by omega), clamp_non]
  show some _ = some _
  congr 1
  rw [show (-1 + (xs.length : Int)).toNat = xs.length - 1 by omega, List.take_of_length_le (by simp)]
theorem last_eq (out : Tx) (c : Nat) : (out.drop (out.length - 1) = [c]) ↔ out.getLast? = some c := by
  rcases List.eq_nil_or_concat out with rfl | ⟨l, a, rfl⟩ <;> simp
theorem law_squeezed_ok {C C' : Oracle} (h : C "_law_squeezed" = run C' d_law_squeezed) (t : Tx) (c : Nat) (hp : List AV) (Q : AV → Bool → List AV → Prop) (E : AV → List AV → Prop) (hb : t.length ≤ 1000000)
    (k : Q (.str (squX c t)) false hp) : (C "_law_squeezed" [.str [c], .str t] hp).W Q E := by
  rw [h]
  refine W_run rfl ?_
  simp only [d_law_squeezed, startS]
  refine W_cons ?_
  simp
  refine W_cons ?_
  simp
  refine W_for_inv (fun d s => ∃ (d' out : Tx) (o3 : Option (AV × Bool)), d = chrs d' ∧ s = ⟨[some (.str [c], false), some (.str t, false), some (.str out, false), o3], hp⟩ ∧ out.length ≤ d'.length ∧ d'.length ≤ t.length ∧
      out ++ squS c (decide (out.getLast? = some c)) (t.drop d'.length) = squX c t) ⟨[], [], none, rfl, rfl, Nat.le_refl _, Nat.zero_le _, by simp [squX]⟩ ?_ ?_
  · rintro d x r s K e ⟨d', out, o3, rfl, rfl, h1, h2, h3⟩ hK
    obtain ⟨d2, x', r', e1, e2, rfl, rfl⟩ := map_split e
    have e2 : d' = d2 := (List.map_inj_right (fun a b h => by simpa using h)).mp e2
    subst e2
    have hd : t.drop d'.length = x' :: r' := by rw [e1]; simp
    have hl : d'.length + 1 ≤ t.length := by rw [e1]; simp
    have hr : t.drop (d' ++ [x']).length = r' := by rw [e1]; simp
    rw [hd, squS] at h3
    simp
    refine W_cons ?_
    simp [eqA_str, cut_last, last_eq]
    by_cases hx : x' = c
    · subst hx
      rw [if_pos rfl] at h3
      by_cases hb : out.getLast? = some x'
      · simp [hb] at h3 ⊢
        exact hK _ ⟨d' ++ [x'], out, _, by simp [chrs], rfl, by simp; omega, by simpa using hl, by rw [hr]; simpa [hb] using h3⟩
      · simp [hb] at h3 ⊢
        refine W_cons ?_
        simp
        refine ⟨by omega, ?_⟩
        exact hK _ ⟨d' ++ [x'], out ++ [x'], _, by simp [chrs], rfl, by simp; omega, by simpa using hl, by rw [hr]; simpa using h3⟩
    · rw [if_neg hx] at h3
      simp [hx]
      refine W_cons ?_
      simp
      refine ⟨by omega, ?_⟩
      exact hK _ ⟨d' ++ [x'], out ++ [x'], _, by simp [chrs], rfl, by simp; omega, by simpa using hl, by rw [hr]; simpa [hx] using h3⟩
  · rintro s ⟨d', out, o3, e, rfl, h1, h2, h3⟩
    have e : t = d' := (List.map_inj_right (fun a b h => by simpa using h)).mp e
    subst e
    rw [List.drop_length, squS, List.append_nil] at h3
    subst h3
    simp
    refine W_cons ?_
    simp
    exact k
theorem look_app (d : List (Nat × Tx)) (p : Nat × Tx) (c : Nat) (h : p.1 ∉ d.map (·.1)) : lookX (d ++ [p]) c = if p.1 = c then p.2 else lookX d c := by
  induction d with
  | nil => simp [lookX]
  | cons q r ih =>
    simp at h
    rw [List.cons_append, lookX, lookX, ih (by simpa using h.2)]
    by_cases h1 : q.1 = c
    · rw [if_pos h1, if_pos h1]
      by_cases h2 : p.1 = c
      · exact absurd (h2.trans h1.symm) h.1
      · rw [if_neg h2]
    · rw [if_neg h1, if_neg h1]
theorem law_mapped_ok {C C' : Oracle} (h : C "_law_mapped" = run C' d_law_mapped) (t : Tx) (ps : List (Nat × Tx)) (pv : AV) (hpv : itemsOf pv = some (ps.map pairAV)) (hp : List AV) (Q : AV → Bool → List AV → Prop) (E : AV → List AV → Prop) (hn : (ps.map (·.1)).Nodup) (hl : ∀ p ∈ ps, p.2.length ≤ 40) (hb : t.length ≤ 100000)
    (k : Q (.str (mapX ps t)) false hp) : (C "_law_mapped" [pv, .str t] hp).W Q E := by
  rw [h]
  refine W_run rfl ?_
  simp only [d_law_mapped, startS]
  refine W_cons ?_
  simp
  refine W_cons ?_
  simp
  refine W_for_inv (fun d s => ∃ (d' : Tx) (o3 o4 o5 : Option (AV × Bool)), d = chrs d' ∧ d'.length ≤ t.length ∧ s = ⟨[some (pv, false), some (.str t, false), some (.str (mapX ps d'), false), o3, o4, o5], hp⟩) ⟨[], none, none, none, rfl, Nat.zero_le _, rfl⟩ ?_ ?_
  · rintro d x r s K e ⟨d', o3, o4, o5, rfl, hdl, rfl⟩ hK
    obtain ⟨d2, x', r', e1, e2, rfl, rfl⟩ := map_split e
    have e2 : d' = d2 := (List.map_inj_right (fun a b h => by simpa using h)).mp e2
    subst e2
    have hll : d'.length + 1 ≤ t.length := by rw [e1]; simp
    simp
    refine W_cons ?_
    simp
    refine W_cons ?_
    simp [hpv]
    refine W_for_inv (fun d s => ∃ (dp : List (Nat × Tx)) (o5 : Option (AV × Bool)), d = dp.map pairAV ∧ s = ⟨[some (pv, false), some (.str t, false), some (.str (mapX ps d'), false), some (.str [x'], false), some (.str (lookX dp x'), false), o5], hp⟩) ⟨[], o5, rfl, rfl⟩ ?_ ?_
    · rintro d x r s K2 e ⟨dp, o5, rfl, rfl⟩ hK2
      obtain ⟨d3, p, r3, e3, e4, rfl, rfl⟩ := map_split e
      have inj : ∀ a b : Nat × Tx, pairAV a = pairAV b → a = b := by
        rintro ⟨a1, a2⟩ ⟨b1, b2⟩ h
        simpa [pairAV] using h
      have e4 : dp = d3 := (List.map_inj_right inj).mp e4
      subst e4
      have hnp : p.1 ∉ dp.map (·.1) := by
        rw [e3, List.map_append, List.map_cons, List.nodup_append] at hn
        intro hm
        exact hn.2.2 _ hm _ List.mem_cons_self rfl
      simp [pairAV]
      refine W_cons ?_
      simp [atX, eqA_str]
      split
      · rename_i hx
        refine W_cons ?_
        simp [atX]
        exact hK2 _ ⟨dp ++ [p], _, by simp [pairAV], by rw [look_app dp p x' hnp, if_pos hx]⟩
      · rename_i hx
        exact hK2 _ ⟨dp ++ [p], _, by simp [pairAV], by rw [look_app dp p x' hnp, if_neg hx]⟩
    · rintro s ⟨dp, o5, e, rfl⟩
      have inj : ∀ a b : Nat × Tx, pairAV a = pairAV b → a = b := by
        rintro ⟨a1, a2⟩ ⟨b1, b2⟩ h
        simpa [pairAV] using h
      have e : ps = dp := (List.map_inj_right inj).mp e
      subst e
      have h1 := mapX_len hl d'
      have h2 := look_len hl x'
      simp
      refine W_cons ?_
      simp
      refine ⟨by omega, ?_⟩
      have hm : mapX ps (d' ++ [x']) = mapX ps d' ++ lookX ps x' := by simp [mapX]
      exact hK _ ⟨d' ++ [x'], _, _, _, by simp [chrs], by simpa using hll, by rw [hm]⟩
  · rintro s ⟨d', o3, o4, o5, e, hdl, rfl⟩
    have e : t = d' := (List.map_inj_right (fun a b h => by simpa using h)).mp e
    subst e
    simp
    refine W_cons ?_
    simp
    exact k
/-- the keys drawn from a place on -/
def keysR (cs : List Nat) (turn k : Nat) : List Nat := (List.range k).map fun j => cs.getD ((j + turn) % cs.length) 0
theorem keysR_nodup {cs : List Nat} {turn k : Nat} (h : cs.Nodup) (hk : k ≤ cs.length) : (keysR cs turn k).Nodup := by
  unfold keysR
  rw [List.nodup_iff_pairwise_ne, List.pairwise_map]
  refine List.Pairwise.imp_of_mem ?_ (List.nodup_iff_pairwise_ne.mp (List.nodup_range (n := k)))
  intro a b ha hb hne e
  have ha := List.mem_range.mp ha
  have hb := List.mem_range.mp hb
  have hp : 0 < cs.length := by omega
  have h1 := Nat.mod_lt (a + turn) hp
  have h2 := Nat.mod_lt (b + turn) hp
  rw [List.getD_eq_getElem?_getD, List.getD_eq_getElem?_getD, List.getElem?_eq_getElem h1, List.getElem?_eq_getElem h2] at e
  have e := (List.getElem_inj h).mp e
  have d1 := Nat.div_add_mod (a + turn) cs.length
  have d2 := Nat.div_add_mod (b + turn) cs.length
  rw [e] at d1
  rcases Nat.lt_trichotomy ((a + turn) / cs.length) ((b + turn) / cs.length) with h | h | h
  · have := Nat.mul_le_mul_left cs.length (Nat.succ_le_of_lt h)
    rw [Nat.mul_succ] at this
    omega
  · rw [h] at d1; omega
  · have := Nat.mul_le_mul_left cs.length (Nat.succ_le_of_lt h)
    rw [Nat.mul_succ] at this
    omega
theorem keysR_succ (cs : List Nat) (turn k : Nat) : keysR cs turn (k + 1) = keysR cs turn k ++ [cs.getD ((k + turn) % cs.length) 0] := by
  unfold keysR
  rw [List.range_succ, List.map_append]
  rfl
end Q
end

section
set_option linter.all false
set_option maxRecDepth 100000
set_option maxHeartbeats 1000000
/-! Read: steps that read sign by sign. -/
namespace Q
def rdP (old t : Tx) (k : Nat) : Bool := decide (t.length - k < old.length) && (t.drop k).isPrefixOf old
def rdOld (old new t : Tx) : Tx × Tx :=
  if t = old then ([], new) else
  match (List.range t.length).find? (rdP old t) with
  | some k => (t.drop k, t.take k)
  | none => ([], t)
def Stp.rd : Stp → Tx → Nat → Tx × Tx
  | .repl old new, h, c => rdOld old new (h ++ [c])
  | .squ a, h, c => if c = a then ([a], []) else ([], h ++ [c])
  | .map ps, _, c => ([], lookX ps c)
def Stp.rdT (st : Stp) : Tx → Tx → Tx × Tx
  | h, [] => (h, [])
  | h, c :: r => ((st.rdT (st.rd h c).1 r).1, (st.rd h c).2 ++ (st.rdT (st.rd h c).1 r).2)
/-- what a step can hold back -/
def Stp.held : Stp → Tx → Prop
  | .repl old _, h => h <+: old ∧ h.length < old.length
  | .squ c, h => h = [] ∨ h = [c]
  | .map _, h => h = []
theorem Stp.held_nil {st : Stp} (h : st.ok) : st.held [] := by
  cases st with
  | repl old new => exact ⟨List.nil_prefix, by cases old with | nil => exact absurd rfl h.1 | cons _ _ => simp⟩
  | squ c => exact .inl rfl
  | map ps => rfl
theorem rdOld_held {old new t : Tx} (ho : old ≠ []) : (rdOld old new t).1 <+: old ∧ (rdOld old new t).1.length < old.length := by
  have hp : 0 < old.length := by cases old with | nil => exact absurd rfl ho | cons _ _ => simp
  unfold rdOld
  split
  · exact ⟨List.nil_prefix, by simpa using hp⟩
  · split
    · rename_i k hk
      have h1 := (List.find?_range_eq_some.mp hk).1
      unfold rdP at h1
      simp only [Bool.and_eq_true, decide_eq_true_eq, List.isPrefixOf_iff_prefix] at h1
      exact ⟨h1.2, by simpa using h1.1⟩
    · exact ⟨List.nil_prefix, by simpa using hp⟩
theorem Stp.rd_held {st : Stp} {h : Tx} (c : Nat) (ok : st.ok) (hh : st.held h) : st.held (st.rd h c).1 := by
  cases st with
  | repl old new => exact rdOld_held ok.1
  | squ a =>
    show (if c = a then (([a], []) : Tx × Tx) else ([], h ++ [c])).1 = [] ∨ (if c = a then (([a], []) : Tx × Tx) else ([], h ++ [c])).1 = [a]
    split
    · exact .inr rfl
    · exact .inl rfl
  | map ps => rfl
theorem Stp.held_len {st : Stp} {h : Tx} (ok : st.ok) (hh : st.held h) : h.length ≤ 20 := by
  cases st with
  | repl old new => have := ok.2.1; have := hh.2; omega
  | squ a => rcases hh with rfl | rfl <;> simp
  | map ps => have hh : h = [] := hh; subst hh; simp
theorem Stp.rd_len {st : Stp} {h : Tx} (c : Nat) (ok : st.ok) (hh : st.held h) : (st.rd h c).2.length ≤ 40 := by
  have hl := Stp.held_len ok hh
  cases st with
  | repl old new =>
    show (rdOld old new (h ++ [c])).2.length ≤ 40
    unfold rdOld
    split
    · exact ok.2.2
    · split
      · simp; omega
      · simp; omega
  | squ a =>
    show (if c = a then (([a], []) : Tx × Tx) else ([], h ++ [c])).2.length ≤ 40
    split
    · simp
    · simp; omega
  | map ps => exact look_len ok.2.1 c
theorem Stp.rdT_held {st : Stp} (ok : st.ok) : ∀ (t h : Tx), st.held h → st.held (st.rdT h t).1
  | [], _, hh => hh
  | c :: r, h, hh => Stp.rdT_held ok r _ (Stp.rd_held c ok hh)
theorem Stp.rdT_len {st : Stp} (ok : st.ok) : ∀ (t h : Tx), st.held h → (st.rdT h t).2.length ≤ t.length * 40
  | [], _, hh => by simp [Stp.rdT]
  | c :: r, h, hh => by
    have h1 := Stp.rd_len c ok hh
    have h2 := Stp.rdT_len ok r _ (Stp.rd_held c ok hh)
    simp only [Stp.rdT, List.length_append, List.length_cons, Nat.succ_mul]
    omega
theorem Stp.rdT_app (st : Stp) : ∀ (a b h : Tx), st.rdT h (a ++ b) = ((st.rdT (st.rdT h a).1 b).1, (st.rdT h a).2 ++ (st.rdT (st.rdT h a).1 b).2)
  | [], b, h => by simp [Stp.rdT]
  | c :: a, b, h => by
    rw [List.cons_append]
    simp only [Stp.rdT]
    rw [Stp.rdT_app st a b]
    simp

/-! ### what is read is the result -/
theorem replX_short {old new : Tx} : ∀ (t : Tx), t.length < old.length → replX old new t = t
  | [], _ => rfl
  | c :: r, h => by
    show replS old new 0 (c :: r) = c :: r
    rw [replS, if_neg]
    · have := replX_short (old := old) (new := new) r (by simp at h; omega)
      unfold replX at this
      rw [this]
    · intro hp
      have := (List.isPrefixOf_iff_prefix.mp hp).length_le
      omega
theorem replX_hit {old new : Tx} (ho : old ≠ []) (r : Tx) : replX old new (old ++ r) = new ++ replX old new r := by
  have skip : ∀ (a : Tx), replS old new a.length (a ++ r) = replS old new 0 r := by
    intro a
    induction a with
    | nil => rfl
    | cons x a ih => simpa [replS] using ih
  cases old with
  | nil => exact absurd rfl ho
  | cons c o =>
    show replS (c :: o) new 0 (c :: (o ++ r)) = _
    rw [replS, if_pos]
    · have : (c :: o).length - 1 = o.length := by simp
      rw [this, skip o]
      rfl
    · rw [List.isPrefixOf_iff_prefix]
      exact ⟨r, rfl⟩
theorem replX_miss {old new : Tx} : ∀ (k : Nat) (u : Tx), k ≤ u.length → (∀ j, j < k → ¬ old <+: u.drop j) → replX old new u = u.take k ++ replX old new (u.drop k)
  | 0, u, _, _ => by simp
  | k + 1, [], h, _ => by simp at h
  | k + 1, c :: r, h, hn => by
    have h0 := hn 0 (by omega)
    rw [List.drop_zero] at h0
    have e : replX old new (c :: r) = c :: replX old new r := by
      show replS old new 0 (c :: r) = _
      rw [replS, if_neg (fun hp => h0 (List.isPrefixOf_iff_prefix.mp hp))]
      rfl
    rw [e, replX_miss k r (by simpa using h) fun j hj => by simpa using hn (j + 1) (by omega)]
    rfl
theorem rdOld_run {old new : Tx} (ho : old ≠ []) (u r : Tx) (hl : u.length ≤ old.length) : replX old new (u ++ r) = (rdOld old new u).2 ++ replX old new ((rdOld old new u).1 ++ r) := by
  unfold rdOld
  split
  · rename_i h
    subst h
    exact replX_hit ho r
  · rename_i hne
    have key : ∀ k, k ≤ u.length → (∀ j, j < k → rdP old u j = false) → replX old new (u ++ r) = u.take k ++ replX old new (u.drop k ++ r) := by
      intro k hk hj
      have := replX_miss (old := old) (new := new) k (u ++ r) (by simp; omega) fun j h hp => by
        have h1 := hj j h
        rw [List.drop_append_of_le_length (by omega)] at hp
        have hx : u.drop j <+: old := by
          have h2 : u.drop j <+: u.drop j ++ r := List.prefix_append _ _
          exact List.prefix_of_prefix_length_le h2 hp (by simp; omega)
        unfold rdP at h1
        rw [List.isPrefixOf_iff_prefix.mpr hx, Bool.and_true, decide_eq_false_iff_not] at h1
        have hl2 : u.length - j = old.length := by
          have := hx.length_le
          simp at this
          omega
        have hj0 : j = 0 := by omega
        subst hj0
        rw [List.drop_zero] at hx
        exact hne (hx.eq_of_length (by omega))
      rw [this, List.take_append_of_le_length hk, List.drop_append_of_le_length hk]
    split
    · rename_i k hk
      obtain ⟨h1, h2, h3⟩ := List.find?_range_eq_some.mp hk
      exact key k (by have := List.mem_range.mp h2; omega) fun j hj => by simpa using h3 j hj
    · rename_i hk
      have h3 := List.find?_range_eq_none.mp hk
      have := key u.length (Nat.le_refl _) fun j hj => by simpa using h3 j hj
      simpa using this
theorem Stp.rd_run {st : Stp} (ok : st.ok) (h : Tx) (c : Nat) (r : Tx) (hh : st.held h) : st.run (h ++ c :: r) = (st.rd h c).2 ++ st.run ((st.rd h c).1 ++ r) := by
  cases st with
  | repl old new =>
    have := rdOld_run (new := new) ok.1 (h ++ [c]) r (by have := hh.2; simp; omega)
    simpa [Stp.run, Stp.rd] using this
  | squ a =>
    simp only [Stp.run, Stp.rd, squX]
    rcases hh with rfl | rfl
    · by_cases hc : c = a
      · subst hc; simp [squS]
      · simp [squS, hc]
    · by_cases hc : c = a
      · subst hc; simp [squS]
      · simp [squS, hc]
  | map ps =>
    have hh : h = [] := hh
    subst hh
    simp [Stp.run, Stp.rd, mapX]
theorem Stp.run_nil {st : Stp} {h : Tx} (ok : st.ok) (hh : st.held h) : st.run h = h := by
  cases st with
  | repl old new => exact replX_short h hh.2
  | squ a => rcases hh with rfl | rfl <;> simp [Stp.run, squX, squS]
  | map ps => have hh : h = [] := hh; subst hh; rfl
/-- POINT 13 -/
theorem Stp.rdT_run {st : Stp} (ok : st.ok) : ∀ (t h : Tx), st.held h → (st.rdT h t).2 ++ (st.rdT h t).1 = st.run (h ++ t)
  | [], h, hh => by simp [Stp.rdT, Stp.run_nil ok hh]
  | c :: r, h, hh => by
    simp only [Stp.rdT]
    rw [List.append_assoc, Stp.rdT_run ok r _ (Stp.rd_held c ok hh), Stp.rd_run ok h c r hh]
/-- what can be held back is held back -/
theorem Stp.rdT_hold {st : Stp} (ok : st.ok) {t : Tx} (hh : st.held t) : st.rdT [] t = (t, []) := by
  cases st with
  | repl old new =>
    have key : ∀ (b a : Tx), a ++ b <+: old → (a ++ b).length < old.length → (Stp.repl old new).rdT a b = (a ++ b, []) := by
      intro b
      induction b with
      | nil => intro a _ _; simp [Stp.rdT]
      | cons c r ih =>
        intro a hp hl
        have hac : (a ++ [c]) ++ r = a ++ c :: r := by simp
        rw [← hac] at hp hl
        have hp2 : a ++ [c] <+: old := (List.prefix_append _ _).trans hp
        have hl2 : (a ++ [c]).length < old.length := by simp at hl ⊢; omega
        have hne : a ++ [c] ≠ old := fun e => by rw [e] at hl2; omega
        have hf : (List.range (a ++ [c]).length).find? (rdP old (a ++ [c])) = some 0 := by
          rw [List.find?_range_eq_some]
          refine ⟨?_, by simp, by intro j hj; omega⟩
          unfold rdP
          rw [List.drop_zero, List.isPrefixOf_iff_prefix.mpr hp2, Nat.sub_zero, decide_eq_true hl2]
          rfl
        have e : (Stp.repl old new).rd a c = (a ++ [c], []) := by
          show rdOld old new (a ++ [c]) = _
          unfold rdOld
          rw [if_neg hne, hf]
          simp
        simp only [Stp.rdT]
        rw [e]
        dsimp only
        rw [ih (a ++ [c]) hp hl]
        simp
    simpa using key t [] (by simpa using hh.1) (by simpa using hh.2)
  | squ a => rcases hh with rfl | rfl <;> simp [Stp.rdT, Stp.rd]
  | map ps => have hh : t = [] := hh; subst hh; rfl

/-! ### the defs -/
def dread_old : IFn := ⟨3, 4, [.ite (.cmp .eq (.v 2) (.v 0)) [.ret (.tup [.c (.str []), .v 1])] [], .for_ (.nm 3) (.rng1 (.bcall .len [.v 2])) [.ite (.and_ [.cmp .lt (.bin .sub (.bcall .len [.v 2]) (.v 3)) (.bcall .len [.v 0]), .meth (.v 0) .startswith [.sl (.v 2) (.v 3) (.c .non)]]) [.ret (.tup [.sl (.v 2) (.v 3) (.c .non), .sl (.v 2) (.c .non) (.v 3)])] []], .ret (.tup [.c (.str []), .v 2])]⟩
def dread_char : IFn := ⟨3, 7, [.mtch (.v 0) [.seq [.val [114, 101, 112, 108, 97, 99, 101], .cap 3, .cap 4], .seq [.val [115, 113, 117, 101, 101, 122, 101], .cap 5], .seq [.any, .cap 6]] [[.ret (.call "read_old" [.v 3, .v 4, .bin .add (.v 1) (.v 2)])], [.ite (.cmp .eq (.v 2) (.v 5)) [.ret (.tup [.v 5, .c (.str [])])] [], .ret (.tup [.c (.str []), .bin .add (.v 1) (.v 2)])], [.ret (.tup [.c (.str []), .meth (.bcall .dict [.v 6]) .get [.v 2, .v 2]])]]]⟩
def dread_text : IFn := ⟨3, 6, [.asg (.nm 3) (.lst []), .for_ (.nm 4) (.v 2) [.asg (.tp [1, 5]) (.call "read_char" [.v 0, .v 1, .v 4]), .app 3 (.v 5)], .ret (.tup [.v 1, .meth (.c (.str [])) .join [.v 3]])]⟩
def dholdable : IFn := ⟨1, 4, [.mtch (.v 0) [.seq [.val [114, 101, 112, 108, 97, 99, 101], .cap 1, .any], .seq [.val [115, 113, 117, 101, 101, 122, 101], .cap 2], .any] [[.ret (.lc (.sl (.v 1) (.c .non) (.v 3)) [3] (.nm 3) (.rng1 (.bcall .len [.v 1])) [])], [.ret (.lst [.c (.str []), .v 2])], [.ret (.lst [.c (.str [])])]]]⟩
def prAV (p : Tx × Tx) : AV := .tup [.str p.1, .str p.2]
theorem read_old_ok {C C' : Oracle} (h : C "read_old" = run C' dread_old) (old new t : Tx) (hp : List AV) (Q : AV → Bool → List AV → Prop) (E : AV → List AV → Prop) (hb : t.length ≤ 1000000)
    (k : Q (prAV (rdOld old new t)) false hp) : (C "read_old" [.str old, .str new, .str t] hp).W Q E := by
  rw [h]
  refine W_run rfl ?_
  simp only [dread_old, startS]
  refine W_cons ?_
  simp [eqA_str]
  unfold rdOld at k
  split
  · rename_i he
    rw [if_pos he] at k
    refine W_cons ?_
    simp
    exact k
  · rename_i he
    rw [if_neg he] at k
    refine W_cons ?_
    simp
    refine ⟨by omega, ?_⟩
    refine W_for_rng (fun i s => ∃ o3, s = ⟨[some (.str old, false), some (.str new, false), some (.str t, false), o3], hp⟩ ∧ ∀ j, j < i → rdP old t j = false) ⟨none, rfl, by simp⟩ ?_ ?_
    · rintro i s K hi ⟨o3, rfl, hj⟩ hK
      simp
      refine W_cons ?_
      simp [cut_from, cut_to]
      by_cases h1 : t.length - i < old.length
      · have h1' : (t.length : Int) - i < old.length := by omega
        simp [h1']
        by_cases h2 : t.drop i <+: old
        · simp [h2]
          have hf : (List.range t.length).find? (rdP old t) = some i := by
            rw [List.find?_range_eq_some]
            exact ⟨by unfold rdP; rw [decide_eq_true h1, List.isPrefixOf_iff_prefix.mpr h2]; rfl, List.mem_range.mpr hi, fun j h => by simp [hj j h]⟩
          rw [hf] at k
          refine W_cons ?_
          simp [cut_from, cut_to]
          exact k
        · simp [h2]
          refine hK _ ⟨_, rfl, fun j h => ?_⟩
          by_cases e : j = i
          · subst e
            unfold rdP
            rw [Bool.eq_false_iff]
            simp [h2]
          · exact hj j (by omega)
      · have h1' : ¬ (t.length : Int) - i < old.length := by omega
        simp [h1']
        refine hK _ ⟨_, rfl, fun j h => ?_⟩
        by_cases e : j = i
        · subst e
          unfold rdP
          rw [decide_eq_false h1]; rfl
        · exact hj j (by omega)
    · rintro s ⟨o3, rfl, hj⟩
      have hf : (List.range t.length).find? (rdP old t) = none := by
        rw [List.find?_range_eq_none]
        exact fun j h => by simp [hj j h]
      rw [hf] at k
      simp
      refine W_cons ?_
      simp
      exact k
/-- read_char -/
def rdOk (C : Oracle) : Prop := ∀ (st : Stp) (h : Tx) (c : Nat) (hp : List AV) (Q : AV → Bool → List AV → Prop) (E : AV → List AV → Prop), st.ok → st.held h → Q (prAV (st.rd h c)) false hp → (C "read_char" [st.av, .str h, .str [c]] hp).W Q E
theorem rd_ok {C C' C1 : Oracle} (h : C "read_char" = run C' dread_char) (ho : C' "read_old" = run C1 dread_old) : rdOk C := by
  intro st hd c hp Q E ok hh k
  have hl := Stp.held_len ok hh
  rw [h]
  cases st with
  | repl old new =>
    refine W_run rfl ?_
    simp only [dread_char, startS, Stp.av]
    refine W_cons ?_
    simp [W_exM_cons, patB_tup, patB_any, patB_cap, patB_val, patsB_cons, patsB_nil, eqA_str, tR]
    refine W_cons ?_
    simp
    refine ⟨by omega, ?_⟩
    refine read_old_ok ho old new (hd ++ [c]) hp _ _ (by simp; omega) ?_
    simp
    exact k
  | squ a =>
    refine W_run rfl ?_
    simp only [dread_char, startS, Stp.av]
    refine W_cons ?_
    simp [W_exM_cons, patB_tup, patB_any, patB_cap, patB_val, patsB_cons, patsB_nil, eqA_str, tR, tS]
    refine W_cons ?_
    simp [eqA_str]
    simp only [Stp.rd] at k
    split
    · rename_i e
      rw [if_pos e] at k
      refine W_cons ?_
      simp
      exact k
    · rename_i e
      rw [if_neg e] at k
      refine W_cons ?_
      simp
      refine ⟨by omega, k⟩
  | map ps =>
    refine W_run rfl ?_
    simp only [dread_char, startS, Stp.av]
    refine W_cons ?_
    simp [W_exM_cons, patB_tup, patB_any, patB_cap, patB_val, patsB_cons, patsB_nil, eqA_str, tR, tS, tM]
    refine W_cons ?_
    simp [pairsOf_av, dctO_av ok.1, dget_av]
    exact k
/-- read_text -/
def rdTOk (C : Oracle) : Prop := ∀ (st : Stp) (h t : Tx) (hp : List AV) (Q : AV → Bool → List AV → Prop) (E : AV → List AV → Prop), st.ok → st.held h → t.length ≤ 400000 → Q (prAV (st.rdT h t)) false hp → (C "read_text" [st.av, .str h, .str t] hp).W Q E
theorem rdT_ok {C C' : Oracle} (h : C "read_text" = run C' dread_text) (hr : rdOk C') : rdTOk C := by
  intro st hd t hp Q E ok hh ht k
  rw [h]
  refine W_run rfl ?_
  simp only [dread_text, startS]
  refine W_cons ?_
  simp
  refine W_cons ?_
  simp
  refine W_for_inv (fun d s => ∃ (d' : Tx) (ts : List Tx) (o4 o5 : Option (AV × Bool)), d = chrs d' ∧ d'.length ≤ t.length ∧ ts.length = d'.length ∧ ts.flatten = (st.rdT hd d').2 ∧ s = ⟨[some (st.av, false), some (.str (st.rdT hd d').1, false), some (.str t, false), some (.lst (ts.map .str), true), o4, o5], hp⟩) ⟨[], [], none, none, rfl, Nat.zero_le _, rfl, rfl, rfl⟩ ?_ ?_
  · rintro d x r s K e ⟨d', ts, o4, o5, rfl, hdl, htl, hf, rfl⟩ hK
    obtain ⟨d2, x', r', e1, e2, rfl, rfl⟩ := map_split e
    have e2 : d' = d2 := (List.map_inj_right (fun a b h => by simpa using h)).mp e2
    subst e2
    have hll : d'.length + 1 ≤ t.length := by rw [e1]; simp
    have hhd := Stp.rdT_held ok d' hd hh
    simp
    refine W_cons ?_
    simp
    refine hr st _ x' hp _ _ ok hhd ?_
    simp [prAV, S.putAll]
    refine W_cons ?_
    simp
    refine ⟨by omega, ?_⟩
    have hfst : (st.rdT hd (d' ++ [x'])).1 = (st.rd (st.rdT hd d').1 x').1 := by rw [Stp.rdT_app]; rfl
    have hsnd : (st.rdT hd (d' ++ [x'])).2 = (st.rdT hd d').2 ++ (st.rd (st.rdT hd d').1 x').2 := by rw [Stp.rdT_app]; simp [Stp.rdT]
    refine hK _ ⟨d' ++ [x'], ts ++ [(st.rd (st.rdT hd d').1 x').2], some (.str [x'], false), some (.str (st.rd (st.rdT hd d').1 x').2, false), by simp [chrs], by simpa using hll, by simp [htl], ?_, ?_⟩
    · rw [hsnd, List.flatten_append, hf]
      simp
    · rw [hfst, List.map_append]; rfl
  · rintro s ⟨d', ts, o4, o5, e, hdl, htl, hf, rfl⟩
    have e : t = d' := (List.map_inj_right (fun a b h => by simpa using h)).mp e
    subst e
    have hm := Stp.rdT_len ok t hd hh
    simp
    refine W_cons ?_
    simp [strsOf_map, join_nil]
    refine ⟨?_, ?_⟩
    · refine Nat.le_trans (Nat.le_of_eq (m := (st.rdT hd t).2.length) ?_) (by omega)
      rw [← hf]
      exact sum_flat _
    · rw [hf]
      exact k
/-- the texts that can be held back, shortest first -/
def Stp.holds : Stp → List Tx
  | .repl old _ => (List.range old.length).map fun k => old.take k
  | .squ c => [[], [c]]
  | .map _ => [[]]
theorem Stp.holds_held {st : Stp} (ok : st.ok) {t : Tx} (h : t ∈ st.holds) : st.held t := by
  cases st with
  | repl old new =>
    obtain ⟨k, hk, rfl⟩ := List.mem_map.mp h
    have := List.mem_range.mp hk
    exact ⟨List.take_prefix _ _, by simp; omega⟩
  | squ c => simpa [Stp.holds, Stp.held] using h
  | map ps => simpa [Stp.holds, Stp.held] using h
theorem Stp.held_holds {st : Stp} {t : Tx} (h : st.held t) : t ∈ st.holds := by
  cases st with
  | repl old new => exact List.mem_map.mpr ⟨t.length, List.mem_range.mpr h.2, (List.prefix_iff_eq_take.mp h.1).symm⟩
  | squ c => simpa [Stp.holds, Stp.held] using h
  | map ps => simpa [Stp.holds, Stp.held] using h
theorem holdable_ok {C C' : Oracle} (h : C "holdable" = run C' dholdable) (st : Stp) (hp : List AV) (Q : AV → Bool → List AV → Prop) (E : AV → List AV → Prop) (ok : st.ok)
    (k : Q (.lst (st.holds.map .str)) true hp) : (C "holdable" [st.av] hp).W Q E := by
  rw [h]
  cases st with
  | repl old new =>
    have := ok.2.1
    refine W_run rfl ?_
    simp only [dholdable, startS, Stp.av]
    refine W_cons ?_
    simp [W_exM_cons, patB_tup, patB_any, patB_cap, patB_val, patsB_cons, patsB_nil, eqA_str, tR]
    refine W_cons ?_
    simp
    refine ⟨by omega, ?_⟩
    refine W_lc_rng (fun i acc s => acc = ((List.range i).map fun k => old.take k).map .str ∧ s = ⟨[some (.tup [.str [114, 101, 112, 108, 97, 99, 101], .str old, .str new], false), some (.str old, false), none, none], hp⟩) ⟨rfl, rfl⟩ (by simp; omega) ?_ ?_ ?_
    · rintro i acc s ⟨rfl, _⟩
      simp
    · rintro i acc s K hi ⟨rfl, rfl⟩ hK
      simp [cut_to]
      exact hK _ _ ⟨by simp [List.range_succ], rfl⟩
    · rintro acc s ⟨rfl, rfl⟩
      simp
      simpa [Stp.holds] using k
  | squ c =>
    refine W_run rfl ?_
    simp only [dholdable, startS, Stp.av]
    refine W_cons ?_
    simp [W_exM_cons, patB_tup, patB_any, patB_cap, patB_val, patsB_cons, patsB_nil, eqA_str, tR, tS]
    refine W_cons ?_
    simp
    simpa [Stp.holds] using k
  | map ps =>
    refine W_run rfl ?_
    simp only [dholdable, startS, Stp.av]
    refine W_cons ?_
    simp [W_exM_cons, patB_tup, patB_any, patB_cap, patB_val, patsB_cons, patsB_nil, eqA_str, tR, tS, tM]
    refine W_cons ?_
    simp
    simpa [Stp.holds] using k
end Q
end

section
set_option linter.all false
set_option maxRecDepth 100000
set_option maxHeartbeats 2000000
/-! Draw2: drawn steps of laws k05, k06, k07, k13, .. -/
namespace Q
def d_law_old : IFn := ⟨3, 4, [.ite (.cmp .eq (.call "_law_draw" [.v 0, .c (.int 2)]) (.c (.int 0))) [.ret (.call "_law_word" [.v 0, .v 1, .v 2])] [], .asg (.nm 3) (.call "_law_word" [.v 0, .v 1, .bin .add (.c (.int 1)) (.call "_law_draw" [.v 0, .c (.int 3)])]), .ret (.sl (.bin .mul (.v 3) (.v 2)) (.c .non) (.v 2))]⟩
def d_law_kind : IFn := ⟨2, 8, [.asg (.nm 2) (.call "_law_draw" [.v 0, .c (.int 5)]), .ite (.cmp .eq (.v 2) (.c (.int 0))) [.ret (.tup [.c (.str [115, 113, 117, 101, 101, 122, 101]), .ix (.v 1) (.call "_law_draw" [.v 0, .c (.int 4)])])] [], .ite (.cmp .eq (.v 2) (.c (.int 1))) [.asg (.nm 5) (.call "_law_draw" [.v 0, .c (.int 4)]), .asg (.nm 6) (.lst []), .for_ (.nm 7) (.rng1 (.call "_law_draw" [.v 0, .c (.int 5)])) [.app 6 (.tup [.ix (.v 1) (.bin .mod (.bcall .int [.bin .add (.v 7) (.v 5)]) (.c (.int 4))), .call "_law_word" [.v 0, .v 1, .call "_law_draw" [.v 0, .c (.int 4)]]])], .ret (.tup [.c (.str [109, 97, 112]), .bcall .tuple [.v 6]])] [], .asg (.nm 3) (.sl (.v 1) (.c .non) (.bin .add (.c (.int 1)) (.call "_law_draw" [.v 0, .c (.int 3)]))), .asg (.nm 4) (.call "_law_old" [.v 0, .v 3, .bin .add (.c (.int 1)) (.call "_law_draw" [.v 0, .ix (.lst [.c (.int 4), .c (.int 20)]) (.call "_law_draw" [.v 0, .c (.int 2)])])]), .ret (.tup [.c (.str [114, 101, 112, 108, 97, 99, 101]), .v 4, .call "_law_word" [.v 0, .v 1, .call "_law_draw" [.v 0, .ix (.lst [.c (.int 4), .c (.int 41)]) (.call "_law_draw" [.v 0, .c (.int 2)])]]])]⟩
def d_law_holds : IFn := ⟨1, 2, [.ite (.cmp .eq (.ix (.v 0) (.c (.int 0))) (.c (.str [114, 101, 112, 108, 97, 99, 101]))) [.ret (.lc (.sl (.ix (.v 0) (.c (.int 1))) (.c .non) (.v 1)) [1] (.nm 1) (.rng1 (.bcall .len [.ix (.v 0) (.c (.int 1))])) [])] [], .ite (.cmp .eq (.ix (.v 0) (.c (.int 0))) (.c (.str [115, 113, 117, 101, 101, 122, 101]))) [.ret (.lst [.c (.str []), .ix (.v 0) (.c (.int 1))])] [], .ret (.lst [.c (.str [])])]⟩
def d_law_pair : IFn := ⟨1, 1, [.ite (.or_ [.not_ (.bcall .isinst [.v 0, .c (.ty "tuple")]), .cmp .ne (.bcall .len [.v 0]) (.c (.int 2))]) [.ret (.c (.bl false))] [], .ret (.and_ [.bcall .isinst [.ix (.v 0) (.c (.int 0)), .c (.ty "str")], .bcall .isinst [.ix (.v 0) (.c (.int 1)), .c (.ty "str")]])]⟩
def oldOk (C : Oracle) : Prop := ∀ (R hp : List AV) (us : List Nat) (n : Nat) (Q : AV → Bool → List AV → Prop) (E : AV → List AV → Prop), Pool R hp → us ≠ [] → us.length < 1000 → 1 ≤ n → n ≤ 100 →
  (∀ (t : Tx) hp', t.length = n → (∀ c ∈ t, c ∈ us) → Pool R hp' → Q (.str t) false hp') → (C "_law_old" [.ref 0, .lst (chrs us), .int n] hp).W Q E
theorem mem_rep {α : Type} {k : Nat} {x : List α} {c : α} (h : c ∈ (List.replicate k x).flatten) : c ∈ x := by
  obtain ⟨l, hl, hc⟩ := List.mem_flatten.mp h
  rwa [(List.mem_replicate.mp hl).2] at hc
theorem old_ok {C C' : Oracle} (h : C "_law_old" = run C' d_law_old) (hD : drawOk C') (hW : wordOk C' "_law_word") : oldOk C := by
  intro R hp us n Q E hP hu hul h1 h2 k
  rw [h]
  refine W_run rfl ?_
  simp only [d_law_old, startS]
  refine W_cons ?_
  simp
  refine hD R hp 2 _ _ hP (by decide) (by decide) fun r1 hp1 a1 a2 hP1 => ?_
  simp [eqA_int]
  split
  · refine W_cons ?_
    simp
    refine hW R hp1 us n _ _ hP1 hu (by omega) (by omega) (by omega) fun t hp2 ht1 ht2 hP2 => ?_
    simp
    exact k t hp2 (by omega) ht2 hP2
  · refine W_cons ?_
    simp
    refine hD R hp1 3 _ _ hP1 (by decide) (by decide) fun r2 hp2 a3 a4 hP2 => ?_
    simp
    refine hW R hp2 us (1 + r2) _ _ hP2 hu (by omega) (by omega) (by omega) fun b hp3 hb1 hb2 hP3 => ?_
    simp
    have hbl : b.length ≤ 3 := by omega
    have hb0 : 1 ≤ b.length := by omega
    have hm := Nat.mul_le_mul hbl h2
    have hm2 : n * 1 ≤ n * b.length := Nat.mul_le_mul_left n hb0
    refine W_cons ?_
    simp [cut_to]
    refine ⟨by omega, ?_⟩
    refine k _ hp3 ?_ (fun c hc => hb2 c (mem_rep (List.mem_of_mem_take hc))) hP3
    simp
    omega
theorem fmod_natK (a b k : Nat) (hk : 0 < k) : ((a : Int) + b).fmod k = (((a + b) % k : Nat) : Int) := by
  rw [Int.fmod_eq_emod_of_nonneg _ (by omega)]
  exact (Int.natCast_emod (a + b) k).symm
theorem cs_take {cs : List Nat} {r : Int} (h0 : 0 ≤ r) (hl : 0 < cs.length) : ∃ us : List Nat, us = cs.take (1 + r).toNat ∧ cutX (chrs cs) .non (.int (1 + r)) = some (chrs us) ∧ us ≠ [] ∧ (∀ c ∈ us, c ∈ cs) := by
  obtain ⟨n, hn⟩ : ∃ n : Nat, 1 + r = n := ⟨(1 + r).toNat, by omega⟩
  refine ⟨cs.take n, by rw [hn]; rfl, ?_, ?_, fun c hc => List.mem_of_mem_take hc⟩
  · rw [hn, cut_to]; simp [chrs, List.map_take]
  · intro h
    rcases List.take_eq_nil_iff.mp h with h | h
    · omega
    · rw [h] at hl; simp at hl
/-- a drawn step -/
def kindOk (C : Oracle) (f : String) : Prop := ∀ (R hp : List AV) (cs : List Nat) (Q : AV → Bool → List AV → Prop) (E : AV → List AV → Prop), Pool R hp → cs.length = 4 → cs.Nodup →
  (∀ (st : Stp) hp', st.ok → st.of cs → Pool R hp' → Q st.av false hp') → (C f [.ref 0, .lst (chrs cs)] hp).W Q E
theorem kind_ok {C C' : Oracle} {f : String} (h : C f = run C' d_law_kind) (hD : drawOk C') (hW : wordOk C' "_law_word") (hO : oldOk C') : kindOk C f := by
  intro R hp cs Q E hP hcl hnd k
  rw [h]
  refine W_run rfl ?_
  simp only [d_law_kind, startS]
  refine W_cons ?_
  simp
  refine hD R hp 5 _ _ hP (by decide) (by decide) fun r1 hp1 a1 a2 hP1 => ?_
  simp
  refine W_cons ?_
  simp [eqA_int]
  split
  · refine W_cons ?_
    simp
    refine hD R hp1 4 _ _ hP1 (by decide) (by decide) fun r2 hp2 a3 a4 hP2 => ?_
    obtain ⟨c, hc, _, ac⟩ := atX_chrs (cs := cs) (r := r2) a3 (by omega)
    simp [ac]
    exact k (.squ c) hp2 trivial hc hP2
  · refine W_cons ?_
    simp [eqA_int]
    split
    · refine W_cons ?_
      simp
      refine hD R hp1 4 _ _ hP1 (by decide) (by decide) fun r2 hp2 a3 a4 hP2 => ?_
      obtain ⟨turn, rfl⟩ : ∃ n : Nat, r2 = n := ⟨r2.toNat, by omega⟩
      simp
      refine W_cons ?_
      simp
      refine W_cons ?_
      simp
      refine hD R hp2 5 _ _ hP2 (by decide) (by decide) fun r3 hp3 a5 a6 hP3 => ?_
      obtain ⟨many, rfl⟩ : ∃ n : Nat, r3 = n := ⟨r3.toNat, by omega⟩
      simp
      refine ⟨by omega, ?_⟩
      refine W_for_rng (fun k s => ∃ (ps : List (Nat × Tx)) (o7 : Option (AV × Bool)) (hp : List AV), s = ⟨[some (.ref 0, false), some (.lst (chrs cs), false), some (.int r1, false), none, none, some (.int turn, false), some (.lst (ps.map pairAV), true), o7], hp⟩ ∧ Pool R hp ∧ ps.map (·.1) = keysR cs turn k ∧ ps.length = k ∧ ∀ p ∈ ps, p.2.length ≤ 40 ∧ p.1 ∈ cs ∧ ∀ c ∈ p.2, c ∈ cs) ⟨[], none, hp3, rfl, hP3, rfl, rfl, by simp⟩ ?_ ?_
      · rintro i s K hi ⟨ps, o7, hp, rfl, hP, hks, hlen, hpl⟩ hK
        obtain ⟨cj, hcj, ej, aj⟩ := atX_chrsN (cs := cs) (i := (i + turn) % 4) (by rw [hcl]; exact Nat.mod_lt _ (by decide))
        have ff := fmod_natK i turn 4 (by decide)
        simp at aj ff
        simp
        refine W_cons ?_
        simp [ff, aj]
        refine hD R hp 4 _ _ hP (by decide) (by decide) fun r6 hp8 h10 h11 hP8 => ?_
        simp
        refine hW R hp8 cs r6 _ _ hP8 (by intro h; simp [h] at hcl) (by omega) (by omega) (by omega) fun w hp9 hw1 hw2 hP9 => ?_
        simp
        refine ⟨by omega, ?_⟩
        refine hK _ ⟨ps ++ [(cj, w)], _, hp9, by rw [List.map_append]; rfl, hP9, ?_, by simp [hlen], ?_⟩
        · rw [keysR_succ, List.map_append, hks, hcl]
          simp [List.getD_eq_getElem?_getD, ej]
        · intro p hp
          rcases List.mem_append.mp hp with h | h
          · exact hpl p h
          · simp at h; subst h; exact ⟨by show w.length ≤ 40; omega, hcj, hw2⟩
      · rintro s ⟨ps, o7, hp, rfl, hP, hks, hlen, hpl⟩
        have hn : (ps.map (·.1)).Nodup := by rw [hks]; exact keysR_nodup hnd (by omega)
        simp
        refine W_cons ?_
        simp
        exact k (.map ps) hp ⟨hn, fun p hp => (hpl p hp).1, by omega⟩ (fun p hp => (hpl p hp).2) hP
    · refine W_cons ?_
      simp
      refine hD R hp1 3 _ _ hP1 (by decide) (by decide) fun r2 hp2 a3 a4 hP2 => ?_
      obtain ⟨us, hus, e, hu0, hum⟩ := cs_take (cs := cs) (r := r2) a3 (by omega)
      have hul : us.length ≤ 4 := by rw [hus]; simp; omega
      simp [e]
      refine W_cons ?_
      simp
      refine hD R hp2 2 _ _ hP2 (by decide) (by decide) fun r3 hp3 a5 a6 hP3 => ?_
      obtain ⟨l, hl, e1⟩ := atX_ints [4, 20] a5 a6
      simp at hl e1
      simp [e1]
      refine hD R hp3 l _ _ hP3 (by omega) (by omega) fun r4 hp4 a7 a8 hP4 => ?_
      obtain ⟨n, hn⟩ : ∃ n : Nat, 1 + r4 = n := ⟨(1 + r4).toNat, by omega⟩
      simp [hn]
      refine hO R hp4 us n _ _ hP4 hu0 (by omega) (by omega) (by omega) fun old hp5 ho1 ho2 hP5 => ?_
      simp
      refine W_cons ?_
      simp
      refine hD R hp5 2 _ _ hP5 (by decide) (by decide) fun r5 hp6 a9 a10 hP6 => ?_
      obtain ⟨l2, hl2, e2⟩ := atX_ints [4, 41] a9 a10
      simp at hl2 e2
      simp [e2]
      refine hD R hp6 l2 _ _ hP6 (by omega) (by omega) fun r6 hp7 a11 a12 hP7 => ?_
      simp
      refine hW R hp7 cs r6 _ _ hP7 (by intro h; simp [h] at hcl) (by omega) (by omega) (by omega) fun new hp8 hn1 hn2 hP8 => ?_
      simp
      exact k (.repl old new) hp8 ⟨by intro h; subst h; simp at ho1; omega, by omega, by omega⟩ ⟨fun c hc => hum c (ho2 c hc), hn2⟩ hP8
theorem law_holds_ok {C C' : Oracle} (h : C "_law_holds" = run C' d_law_holds) (st : Stp) (hp : List AV) (Q : AV → Bool → List AV → Prop) (E : AV → List AV → Prop) (ok : st.ok)
    (k : Q (.lst (st.holds.map .str)) true hp) : (C "_law_holds" [st.av] hp).W Q E := by
  rw [h]
  cases st with
  | repl old new =>
    have := ok.2.1
    refine W_run rfl ?_
    simp only [d_law_holds, startS, Stp.av]
    refine W_cons ?_
    simp [atX, eqA_str, tR]
    refine W_cons ?_
    simp [atX]
    refine ⟨by omega, ?_⟩
    refine W_lc_rng (fun i acc s => acc = ((List.range i).map fun k => old.take k).map .str ∧ s = ⟨[some (.tup [.str [114, 101, 112, 108, 97, 99, 101], .str old, .str new], false), none], hp⟩) ⟨rfl, rfl⟩ (by simp; omega) ?_ ?_ ?_
    · rintro i acc s ⟨rfl, _⟩
      simp
    · rintro i acc s K hi ⟨rfl, rfl⟩ hK
      simp [cut_to, atX]
      exact hK _ _ ⟨by simp [List.range_succ], rfl⟩
    · rintro acc s ⟨rfl, rfl⟩
      simp
      simpa [Stp.holds] using k
  | squ c =>
    refine W_run rfl ?_
    simp only [d_law_holds, startS, Stp.av]
    refine W_cons ?_
    simp [atX, eqA_str, tS]
    refine W_cons ?_
    simp [atX, eqA_str]
    refine W_cons ?_
    simp [atX]
    simpa [Stp.holds] using k
  | map ps =>
    refine W_run rfl ?_
    simp only [d_law_holds, startS, Stp.av]
    refine W_cons ?_
    simp [atX, eqA_str, tM]
    refine W_cons ?_
    simp [atX, eqA_str]
    refine W_cons ?_
    simp
    simpa [Stp.holds] using k
theorem law_pair_ok {C C' : Oracle} (h : C "_law_pair" = run C' d_law_pair) (p : Tx × Tx) (hp : List AV) (Q : AV → Bool → List AV → Prop) (E : AV → List AV → Prop) (k : Q (.bl true) false hp) : (C "_law_pair" [prAV p] hp).W Q E := by
  rw [h]
  refine W_run rfl ?_
  simp only [d_law_pair, startS, prAV]
  refine W_cons ?_
  simp [eqA_int]
  refine W_cons ?_
  simp [atX]
  exact k
end Q
end

section
set_option linter.all false
set_option maxRecDepth 100000
set_option maxHeartbeats 2000000
/-! Kinds: is_step, drawn steps of any size. -/
namespace Q
theorem eqA_self {a : AV} (h : plain a = true) : eqA a a = some true := by
  have hb : ∀ b, a ≠ .bl b := by
    rintro b rfl
    simp [plain, plainN] at h
  unfold eqA
  split
  · exact absurd rfl (hb _)
  · simp [h]
theorem plain_pr (p : Tx × Tx) : plain (prAV p) = true := by simp [plain, prAV, plainN, plainLN]
theorem plain_strsN : ∀ (n : Nat) (ts : List Tx), plainLN n (ts.map .str) = true
  | n, [] => by simp [plainLN]
  | n, t :: r => by simp [plainLN, plainN, plain_strsN n r]
theorem plain_strs (ts : List Tx) : plain (.lst (ts.map .str)) = true := by
  unfold plain
  rw [plainN]
  exact plain_strsN _ ts
theorem inA_dec (t : Tx) (ts : List Tx) : inA (.str t) (ts.map .str) = some (decide (t ∈ ts)) := by
  unfold inA
  rw [if_pos ⟨by simp [plain, plainN], plain_strsN _ _⟩]
  simp
theorem inA_strs {t : Tx} {ts : List Tx} (h : t ∈ ts) : inA (.str t) (ts.map .str) = some true := by
  rw [inA_dec]; simp [h]
def dis_map : IFn := ⟨1, 3, [.asg (.nm 1) (.lst []), .for_ (.nm 2) (.v 0) [.ite (.or_ [.cmp .ne (.bcall .len [.v 2]) (.c (.int 2)), .cmp .ne (.bcall .len [.ix (.v 2) (.c (.int 0))]) (.c (.int 1)), .cmp .gt (.bcall .len [.ix (.v 2) (.c (.int 1))]) (.c (.int 40))]) [.ret (.c (.bl false))] [], .ite (.cmp .isin (.ix (.v 2) (.c (.int 0))) (.v 1)) [.ret (.c (.bl false))] [], .app 1 (.ix (.v 2) (.c (.int 0)))], .ret (.c (.bl true))]⟩
def dis_step : IFn := ⟨1, 5, [.mtch (.v 0) [.seq [.val [114, 101, 112, 108, 97, 99, 101], .cap 1, .cap 2], .seq [.val [115, 113, 117, 101, 101, 122, 101], .cap 3], .seq [.val [109, 97, 112], .cap 4], .any] [[.ret (.and_ [.chain .le .le (.c (.int 1)) (.bcall .len [.v 1]) (.c (.int 20)), .cmp .le (.bcall .len [.v 2]) (.c (.int 40))])], [.ret (.cmp .eq (.bcall .len [.v 3]) (.c (.int 1)))], [.ret (.call "is_map" [.v 4])], [.ret (.c (.bl false))]]]⟩
def rowAV (p : List Tx) : AV := .tup (p.map .str)
def okRow : List Tx → Bool
  | [a, b] => decide (a.length = 1 ∧ b.length ≤ 40)
  | _ => false
def mapV : List Tx → List (List Tx) → Bool
  | _, [] => true
  | seen, p :: r => okRow p && !decide (p.getD 0 [] ∈ seen) && mapV (seen ++ [p.getD 0 []]) r
theorem is_map_ok {C C' : Oracle} (h : C "is_map" = run C' dis_map) (xs : List (List Tx)) (hl : xs.length ≤ 1000) (hp : List AV) (Q : AV → Bool → List AV → Prop) (E : AV → List AV → Prop)
    (k : Q (.bl (mapV [] xs)) false hp) : (C "is_map" [.tup (xs.map rowAV)] hp).W Q E := by
  rw [h]
  refine W_run rfl ?_
  simp only [dis_map, startS]
  refine W_cons ?_
  simp
  refine W_cons ?_
  simp
  refine W_for_inv (fun d s => ∃ (dp : List (List Tx)) (seen : List Tx) (o2 : Option (AV × Bool)), d = dp.map rowAV ∧ dp.length ≤ xs.length ∧ seen.length = dp.length ∧ s = ⟨[some (.tup (xs.map rowAV), false), some (.lst (seen.map .str), true), o2], hp⟩ ∧ mapV seen (xs.drop dp.length) = mapV [] xs) ⟨[], [], none, rfl, Nat.zero_le _, rfl, rfl, rfl⟩ ?_ ?_
  · rintro d x r s K e ⟨dp, seen, o2, rfl, hdl, hsl, rfl, hm⟩ hK
    obtain ⟨d3, p, r3, e3, e4, rfl, rfl⟩ := map_split e
    have inj : ∀ a b : List Tx, rowAV a = rowAV b → a = b := fun a b h => by
      unfold rowAV at h
      injection h with h
      exact (List.map_inj_right (fun a b h => by simpa using h)).mp h
    have e4 : dp = d3 := (List.map_inj_right inj).mp e4
    subst e4
    have hdl2 : dp.length + 1 ≤ xs.length := by rw [e3]; simp
    have hdr : xs.drop dp.length = p :: r3 := by rw [e3]; simp
    have hdr2 : xs.drop (dp.length + 1) = r3 := by rw [e3]; simp
    rw [hdr, mapV] at hm
    simp
    refine W_cons ?_
    match p, hm with
    | [], hm =>
      simp [okRow] at hm
      simp [rowAV, eqA_int]
      refine W_cons ?_
      simp [hm]
      rw [show mapV [] xs = false by first | exact hm | exact hm.symm] at k
      exact k
    | [a], hm =>
      simp [okRow] at hm
      simp [rowAV, eqA_int]
      refine W_cons ?_
      simp
      rw [show mapV [] xs = false by first | exact hm | exact hm.symm] at k
      exact k
    | [a, b], hm =>
      simp [rowAV, eqA_int, atX]
      by_cases ha : a.length = 1
      · by_cases hb : b.length ≤ 40
        · have hb' : ¬ 40 < b.length := by omega
          have hb2 : ¬ (40 : Int) < b.length := by omega
          simp [ha, hb', hb2]
          refine W_cons ?_
          simp [atX, inA_dec]
          simp [okRow, ha, hb] at hm
          split
          · rename_i hin
            refine W_cons ?_
            simp
            simp [hin] at hm
            rw [show mapV [] xs = false by first | exact hm | exact hm.symm] at k
            exact k
          · rename_i hin
            refine W_cons ?_
            simp [atX]
            refine ⟨by omega, ?_⟩
            simp [hin] at hm
            exact hK _ ⟨dp ++ [[a, b]], seen ++ [a], _, by simp [rowAV], by simpa using hdl2, by simp [hsl], by rw [List.map_append]; rfl, by simpa [hdr2] using hm⟩
        · have hb' : 40 < b.length := by omega
          have hb2 : (40 : Int) < b.length := by omega
          simp [okRow, hb] at hm
          simp [ha, hb', hb2]
          refine W_cons ?_
          simp
          rw [show mapV [] xs = false by first | exact hm | exact hm.symm] at k
          exact k
      · have ha2 : ¬ (a.length : Int) = 1 := by omega
        simp [okRow, ha] at hm
        simp [ha, ha2]
        refine W_cons ?_
        simp
        rw [show mapV [] xs = false by first | exact hm | exact hm.symm] at k
        exact k
    | a :: b :: c :: q, hm =>
      simp [okRow] at hm
      have h2 : ¬ ((q.length : Int) + 1 + 1 + 1 = 2) := by omega
      simp [rowAV, eqA_int, h2]
      refine W_cons ?_
      simp
      rw [show mapV [] xs = false by first | exact hm | exact hm.symm] at k
      exact k
  · rintro s ⟨dp, seen, o2, e, hdl, hsl, rfl, hm⟩
    have inj : ∀ a b : List Tx, rowAV a = rowAV b → a = b := fun a b h => by
      unfold rowAV at h
      injection h with h
      exact (List.map_inj_right (fun a b h => by simpa using h)).mp h
    have e : xs = dp := (List.map_inj_right inj).mp e
    subst e
    rw [List.drop_length, mapV] at hm
    rw [← hm] at k
    simp
    refine W_cons ?_
    simp
    exact k
/-- values that are no steps -/
inductive BadV : AV → Prop where
  | t0 : BadV (.tup [])
  | t1 (n : Tx) : BadV (.tup [.str n])
  | t2 (n : Tx) (a : AV) : n ≠ tS → n ≠ tM → BadV (.tup [.str n, a])
  | t2S (x : Tx) : x.length ≠ 1 → BadV (.tup [.str tS, .str x])
  | t2M (xs : List (List Tx)) : xs.length ≤ 1000 → mapV [] xs = false → BadV (.tup [.str tM, .tup (xs.map rowAV)])
  | t3 (n : Tx) (a b : AV) : n ≠ tR → BadV (.tup [.str n, a, b])
  | t3R (x y : Tx) : ¬ (1 ≤ x.length ∧ x.length ≤ 20 ∧ y.length ≤ 40) → BadV (.tup [.str tR, .str x, .str y])
  | t4 (n : Tx) (a b c : AV) (r : List AV) : BadV (.tup (.str n :: a :: b :: c :: r))
theorem is_bad {C C' C1 : Oracle} (h : C "is_step" = run C' dis_step) (hm : C' "is_map" = run C1 dis_map) {v : AV} (bad : BadV v) (hp : List AV) (Q : AV → Bool → List AV → Prop) (E : AV → List AV → Prop)
    (k : Q (.bl false) false hp) : (C "is_step" [v] hp).W Q E := by
  rw [h]
  refine W_run rfl ?_
  simp only [dis_step, startS]
  refine W_cons ?_
  cases bad with
  | t0 =>
    simp [W_exM_cons, patB_tup, patB_any, patB_cap, patB_val, patsB_cons, patsB_nil, eqA_str]
    refine W_cons ?_
    simp [k]
  | t1 n =>
    simp [W_exM_cons, patB_tup, patB_any, patB_cap, patB_val, patsB_cons, patsB_nil, eqA_str]
    refine W_cons ?_
    simp [k]
  | t2 n a h1 h2 =>
    unfold tS at h1
    unfold tM at h2
    simp [W_exM_cons, patB_tup, patB_any, patB_cap, patB_val, patsB_cons, patsB_nil, eqA_str, h1, h2]
    refine W_cons ?_
    simp [k]
  | t2S x hx =>
    have hx2 : ¬ (x.length : Int) = 1 := by omega
    simp [W_exM_cons, patB_tup, patB_any, patB_cap, patB_val, patsB_cons, patsB_nil, eqA_str, tS]
    refine W_cons ?_
    simp [eqA_int, hx, hx2, k]
  | t2M xs hl hx =>
    simp [W_exM_cons, patB_tup, patB_any, patB_cap, patB_val, patsB_cons, patsB_nil, eqA_str, tM]
    refine W_cons ?_
    simp
    refine is_map_ok hm xs hl hp _ _ ?_
    simp [hx, k]
  | t3 n a b h1 =>
    unfold tR at h1
    simp [W_exM_cons, patB_tup, patB_any, patB_cap, patB_val, patsB_cons, patsB_nil, eqA_str, h1]
    refine W_cons ?_
    simp [k]
  | t3R x y hx =>
    simp [W_exM_cons, patB_tup, patB_any, patB_cap, patB_val, patsB_cons, patsB_nil, eqA_str, tR]
    refine W_cons ?_
    simp
    by_cases h1 : 1 ≤ x.length
    · by_cases h2 : x.length ≤ 20
      · have h3 : ¬ y.length ≤ 40 := fun h3 => hx ⟨h1, h2, h3⟩
        have h1' : (1 : Int) ≤ x.length := by omega
        have h2' : (x.length : Int) ≤ 20 := by omega
        have h3' : ¬ (y.length : Int) ≤ 40 := by omega
        simp [h1, h2, h3, h1', h2', h3', k]
      · have h1' : (1 : Int) ≤ x.length := by omega
        have h2' : ¬ (x.length : Int) ≤ 20 := by omega
        simp [h1, h2, h1', h2', k]
    · have h1' : ¬ (1 : Int) ≤ x.length := by omega
      simp [h1, h1', k]
  | t4 n a b c r =>
    simp [W_exM_cons, patB_tup, patB_any, patB_cap, patB_val, patsB_cons, patsB_nil, eqA_str]
    refine W_cons ?_
    simp [k]
theorem mapV_ok : ∀ (ps : List (Nat × Tx)) (seen : List Tx), (∀ p ∈ ps, p.2.length ≤ 40) → (ps.map (·.1)).Nodup → (∀ p ∈ ps, ([p.1] : Tx) ∉ seen) → mapV seen (ps.map fun p => [[p.1], p.2]) = true
  | [], _, _, _, _ => rfl
  | p :: r, seen, h1, h2, h3 => by
    rw [List.map_cons, mapV]
    have ih := mapV_ok r (seen ++ [[p.1]]) (fun q hq => h1 q (List.mem_cons_of_mem _ hq)) (List.nodup_cons.mp h2).2 fun q hq hm => by
      rcases List.mem_append.mp hm with hm | hm
      · exact h3 q (List.mem_cons_of_mem _ hq) hm
      · simp at hm
        exact (List.nodup_cons.mp h2).1 (List.mem_map.mpr ⟨q, hq, hm⟩)
    have hp := h3 p List.mem_cons_self
    have hl := h1 p List.mem_cons_self
    simp [okRow, hp, hl, ih]
theorem mapV_bad : ∀ (xs : List (List Tx)) (seen : List Tx), (∃ p ∈ xs, okRow p = false) → mapV seen xs = false
  | [], _, h => by obtain ⟨p, hp, _⟩ := h; cases hp
  | q :: r, seen, h => by
    obtain ⟨p, hp, hb⟩ := h
    rw [mapV]
    rcases List.mem_cons.mp hp with rfl | hp
    · rw [hb]; rfl
    · rw [mapV_bad r _ ⟨p, hp, hb⟩, Bool.and_false]
theorem mapV_seen : ∀ (xs : List (List Tx)) (seen : List Tx), (∃ p ∈ xs, p.getD 0 [] ∈ seen) → mapV seen xs = false
  | [], _, h => by obtain ⟨p, hp, _⟩ := h; cases hp
  | q :: r, seen, h => by
    obtain ⟨p, hp, hb⟩ := h
    rw [mapV]
    rcases List.mem_cons.mp hp with rfl | hp
    · rw [decide_eq_true hb]; simp
    · rw [mapV_seen r _ ⟨p, hp, List.mem_append_left _ hb⟩, Bool.and_false]
theorem mapV_twice : ∀ (a b : List (List Tx)) (p q : List Tx) (seen : List Tx), p.getD 0 [] = q.getD 0 [] → (q ∈ a ∨ q ∈ b) → mapV seen (a ++ p :: b) = false
  | [], b, p, q, seen, e, h => by
    rcases h with h | h
    · cases h
    · rw [List.nil_append, mapV, mapV_seen b _ ⟨q, h, by rw [← e]; simp⟩, Bool.and_false]
  | x :: a, b, p, q, seen, e, h => by
    rw [List.cons_append, mapV]
    rcases h with h | h
    · rcases List.mem_cons.mp h with rfl | h
      · rw [mapV_seen (a ++ p :: b) _ ⟨p, by simp, by rw [e]; simp⟩, Bool.and_false]
      · rw [mapV_twice a b p q _ e (.inl h), Bool.and_false]
    · rw [mapV_twice a b p q _ e (.inr h), Bool.and_false]
theorem rows_av (ps : List (Nat × Tx)) : ps.map pairAV = (ps.map fun p => [[p.1], p.2]).map rowAV := by
  rw [List.map_map]
  rfl
theorem is_good {C C' C1 : Oracle} (h : C "is_step" = run C' dis_step) (hm : C' "is_map" = run C1 dis_map) {st : Stp} (ok : st.ok) (hp : List AV) (Q : AV → Bool → List AV → Prop) (E : AV → List AV → Prop)
    (k : Q (.bl true) false hp) : (C "is_step" [st.av] hp).W Q E := by
  rw [h]
  refine W_run rfl ?_
  simp only [dis_step, startS]
  refine W_cons ?_
  cases st with
  | repl old new =>
    have h0 : 1 ≤ old.length := by have := ok.1; cases old with | nil => exact absurd rfl this | cons _ _ => simp
    have h1 := ok.2.1
    have h2 := ok.2.2
    have h0' : (1 : Int) ≤ old.length := by omega
    have h1' : (old.length : Int) ≤ 20 := by omega
    have h2' : (new.length : Int) ≤ 40 := by omega
    simp [Stp.av, W_exM_cons, patB_tup, patB_any, patB_cap, patB_val, patsB_cons, patsB_nil, eqA_str, tR]
    refine W_cons ?_
    simp [h0, h1, h2, h0', h1', h2', k]
  | squ c =>
    simp [Stp.av, W_exM_cons, patB_tup, patB_any, patB_cap, patB_val, patsB_cons, patsB_nil, eqA_str, tS]
    refine W_cons ?_
    simp [eqA_int, k]
  | map ps =>
    simp [Stp.av, W_exM_cons, patB_tup, patB_any, patB_cap, patB_val, patsB_cons, patsB_nil, eqA_str, tM]
    refine W_cons ?_
    simp
    rw [rows_av]
    refine is_map_ok hm _ (by have := ok.2.2; simp; omega) hp _ _ ?_
    rw [mapV_ok ps [] ok.2.1 ok.1 (by simp)]
    simp [k]
end Q
end

section
set_option linter.all false
set_option maxRecDepth 100000
set_option maxHeartbeats 2000000
/-! WideD: drawn steps of any size (k03, k04). -/
namespace Q
def d_law_wide : IFn := ⟨2, 8, [.asg (.nm 2) (.call "_law_draw" [.v 0, .c (.int 3)]), .ite (.cmp .eq (.v 2) (.c (.int 0))) [.asg (.nm 6) (.ix (.lst [.c (.int 1), .c (.int 20), .bin .add (.c (.int 1)) (.call "_law_draw" [.v 0, .c (.int 20)])]) (.call "_law_draw" [.v 0, .c (.int 3)])), .asg (.nm 7) (.call "_law_word" [.v 0, .v 1, .v 6]), .asg (.nm 6) (.ix (.lst [.c (.int 0), .c (.int 40), .call "_law_draw" [.v 0, .c (.int 41)]]) (.call "_law_draw" [.v 0, .c (.int 3)])), .ret (.tup [.c (.str [114, 101, 112, 108, 97, 99, 101]), .v 7, .call "_law_word" [.v 0, .v 1, .v 6]])] [], .ite (.cmp .eq (.v 2) (.c (.int 1))) [.ret (.tup [.c (.str [115, 113, 117, 101, 101, 122, 101]), .ix (.v 1) (.call "_law_draw" [.v 0, .bcall .len [.v 1]])])] [], .asg (.nm 3) (.call "_law_draw" [.v 0, .bcall .len [.v 1]]), .asg (.nm 4) (.lst []), .for_ (.nm 5) (.rng1 (.call "_law_draw" [.v 0, .bin .add (.bcall .len [.v 1]) (.c (.int 1))])) [.asg (.nm 6) (.ix (.lst [.c (.int 0), .c (.int 40), .call "_law_draw" [.v 0, .c (.int 41)]]) (.call "_law_draw" [.v 0, .c (.int 3)])), .app 4 (.tup [.ix (.v 1) (.bin .mod (.bcall .int [.bin .add (.v 5) (.v 3)]) (.bcall .len [.v 1])), .call "_law_word" [.v 0, .v 1, .v 6]])], .ret (.tup [.c (.str [109, 97, 112]), .bcall .tuple [.v 4]])]⟩
theorem fmod_natL (a b k : Nat) (hk : 0 < k) : ((a : Int) + b).fmod k = (((a + b) % k : Nat) : Int) := fmod_natK a b k hk
/-- a drawn step of any size -/
def wideOk (C : Oracle) : Prop := ∀ (R hp : List AV) (cs : List Nat) (Q : AV → Bool → List AV → Prop) (E : AV → List AV → Prop), Pool R hp → 0 < cs.length → cs.length ≤ 90 → cs.Nodup →
  (∀ (st : Stp) hp', st.ok → st.of cs → Pool R hp' → Q st.av false hp') → (C "_law_wide" [.ref 0, .lst (chrs cs)] hp).W Q E
theorem wide_ok {C C' : Oracle} (h : C "_law_wide" = run C' d_law_wide) (hD : drawOk C') (hW : wordOk C' "_law_word") : wideOk C := by
  intro R hp cs Q E hP hc0 hcl hnd k
  have hne : cs ≠ [] := by intro h; rw [h] at hc0; simp at hc0
  rw [h]
  refine W_run rfl ?_
  simp only [d_law_wide, startS]
  refine W_cons ?_
  simp
  refine hD R hp 3 _ _ hP (by decide) (by decide) fun r1 hp1 a1 a2 hP1 => ?_
  simp
  refine W_cons ?_
  simp [eqA_int]
  split
  · refine W_cons ?_
    simp
    refine hD R hp1 20 _ _ hP1 (by decide) (by decide) fun r2 hp2 a3 a4 hP2 => ?_
    simp
    refine hD R hp2 3 _ _ hP2 (by decide) (by decide) fun r3 hp3 a5 a6 hP3 => ?_
    obtain ⟨l, hl, e1⟩ := atX_ints [1, 20, 1 + r2] a5 a6
    simp at hl e1
    simp [e1]
    refine W_cons ?_
    simp
    refine hW R hp3 cs l _ _ hP3 hne (by omega) (by omega) (by omega) fun old hp4 ho1 ho2 hP4 => ?_
    simp
    refine W_cons ?_
    simp
    refine hD R hp4 41 _ _ hP4 (by decide) (by decide) fun r4 hp5 a7 a8 hP5 => ?_
    simp
    refine hD R hp5 3 _ _ hP5 (by decide) (by decide) fun r5 hp6 a9 a10 hP6 => ?_
    obtain ⟨l2, hl2, e2⟩ := atX_ints [0, 40, r4] a9 a10
    simp at hl2 e2
    simp [e2]
    refine W_cons ?_
    simp
    refine hW R hp6 cs l2 _ _ hP6 hne (by omega) (by omega) (by omega) fun new hp7 hn1 hn2 hP7 => ?_
    simp
    exact k (.repl old new) hp7 ⟨by intro h; subst h; simp at ho1; omega, by omega, by omega⟩ ⟨ho2, hn2⟩ hP7
  · refine W_cons ?_
    simp [eqA_int]
    split
    · refine W_cons ?_
      simp
      refine hD R hp1 _ _ _ hP1 (by omega) (by omega) fun r2 hp2 a3 a4 hP2 => ?_
      obtain ⟨c, hc, _, ac⟩ := atX_chrs (cs := cs) (r := r2) a3 a4
      simp [ac]
      exact k (.squ c) hp2 trivial hc hP2
    · refine W_cons ?_
      simp
      refine hD R hp1 _ _ _ hP1 (by omega) (by omega) fun r2 hp2 a3 a4 hP2 => ?_
      obtain ⟨turn, rfl⟩ : ∃ n : Nat, r2 = n := ⟨r2.toNat, by omega⟩
      simp
      refine W_cons ?_
      simp
      refine W_cons ?_
      simp
      refine hD R hp2 _ _ _ hP2 (by omega) (by omega) fun r3 hp3 a5 a6 hP3 => ?_
      obtain ⟨many, rfl⟩ : ∃ n : Nat, r3 = n := ⟨r3.toNat, by omega⟩
      simp
      refine ⟨by omega, ?_⟩
      refine W_for_rng (fun k s => ∃ (ps : List (Nat × Tx)) (o5 o6 o7 : Option (AV × Bool)) (hp : List AV), s = ⟨[some (.ref 0, false), some (.lst (chrs cs), false), some (.int r1, false), some (.int turn, false), some (.lst (ps.map pairAV), true), o5, o6, o7], hp⟩ ∧ Pool R hp ∧ ps.map (·.1) = keysR cs turn k ∧ ps.length = k ∧ ∀ p ∈ ps, p.2.length ≤ 40 ∧ p.1 ∈ cs ∧ ∀ c ∈ p.2, c ∈ cs) ⟨[], none, none, none, hp3, rfl, hP3, rfl, rfl, by simp⟩ ?_ ?_
      · rintro i s K hi ⟨ps, o5, o6, o7, hp, rfl, hP, hks, hlen, hpl⟩ hK
        obtain ⟨cj, hcj, ej, aj⟩ := atX_chrsN (cs := cs) (i := (i + turn) % cs.length) (Nat.mod_lt _ hc0)
        have ff := fmod_natL i turn cs.length hc0
        simp at aj ff
        simp
        refine W_cons ?_
        simp
        refine hD R hp 41 _ _ hP (by decide) (by decide) fun r4 hp4 b1 b2 hP4 => ?_
        simp
        refine hD R hp4 3 _ _ hP4 (by decide) (by decide) fun r5 hp5 b3 b4 hP5 => ?_
        obtain ⟨l2, hl2, e2⟩ := atX_ints [0, 40, r4] b3 b4
        simp at hl2 e2
        have hn0 : ¬ (cs.length : Int) = 0 := by omega
        simp [e2]
        refine W_cons ?_
        simp [ff, aj, hne]
        refine hW R hp5 cs l2 _ _ hP5 hne (by omega) (by omega) (by omega) fun w hp9 hw1 hw2 hP9 => ?_
        simp
        refine ⟨by omega, ?_⟩
        refine hK _ ⟨ps ++ [(cj, w)], _, _, _, hp9, by rw [List.map_append]; rfl, hP9, ?_, by simp [hlen], ?_⟩
        · rw [keysR_succ, List.map_append, hks]
          simp [List.getD_eq_getElem?_getD, ej]
        · intro p hp
          rcases List.mem_append.mp hp with h | h
          · exact hpl p h
          · simp at h; subst h; exact ⟨by show w.length ≤ 40; omega, hcj, hw2⟩
      · rintro s ⟨ps, o5, o6, o7, hp, rfl, hP, hks, hlen, hpl⟩
        have hn : (ps.map (·.1)).Nodup := by rw [hks]; exact keysR_nodup hnd (by omega)
        simp
        refine W_cons ?_
        simp
        exact k (.map ps) hp ⟨hn, fun p hp => (hpl p hp).1, by omega⟩ (fun p hp => (hpl p hp).2) hP
end Q
end

section
set_option linter.all false
set_option maxRecDepth 100000
set_option maxHeartbeats 2000000
/-! Alph: what a step reads, how long it makes a text (k03, k12). -/
namespace Q
def dstep_alphabet : IFn := ⟨1, 6, [.mtch (.v 0) [.seq [.val [114, 101, 112, 108, 97, 99, 101], .cap 1, .any], .seq [.val [115, 113, 117, 101, 101, 122, 101], .cap 3], .seq [.any, .cap 4]] [[.asg (.nm 2) (.v 1)], [.asg (.nm 2) (.v 3)], [.asg (.nm 2) (.meth (.c (.str [])) .join [.lc (.ix (.v 5) (.c (.int 0))) [5] (.nm 5) (.v 4) []])]], .ret (.meth (.c (.str [])) .join [.sset (.v 2)])]⟩
def dstep_growth : IFn := ⟨1, 5, [.mtch (.v 0) [.seq [.val [114, 101, 112, 108, 97, 99, 101], .cap 1, .cap 2], .seq [.val [109, 97, 112], .cap 3], .any] [[.ret (.bcall .max [.c (.int 1), .bin .fdiv (.bin .sub (.bin .add (.bcall .len [.v 2]) (.bcall .len [.v 1])) (.c (.int 1))) (.bcall .len [.v 1])])], [.ret (.bcall .max [.bin .add (.lst [.c (.int 1)]) (.lc (.bcall .len [.ix (.v 4) (.c (.int 1))]) [4] (.nm 4) (.v 3) [])])], [.ret (.c (.int 1))]]]⟩
def d_law_ascending : IFn := ⟨1, 2, [.ret (.meth (.c (.str [])) .join [.lc (.call "_law_char" [.v 1]) [1] (.nm 1) (.rng1 (.c (.int 94))) [.cmp .isin (.call "_law_char" [.v 1]) (.v 0)]])]⟩
def d_law_growth : IFn := ⟨1, 3, [.ite (.cmp .eq (.ix (.v 0) (.c (.int 0))) (.c (.str [115, 113, 117, 101, 101, 122, 101]))) [.ret (.c (.int 1))] [], .ite (.cmp .eq (.ix (.v 0) (.c (.int 0))) (.c (.str [109, 97, 112]))) [.ret (.bcall .max [.bin .add (.lst [.c (.int 1)]) (.lc (.bcall .len [.ix (.v 2) (.c (.int 1))]) [2] (.nm 2) (.ix (.v 0) (.c (.int 1))) [])])] [], .for_ (.nm 1) (.rng2 (.c (.int 1)) (.c (.int 41))) [.ite (.cmp .le (.bcall .len [.ix (.v 0) (.c (.int 2))]) (.bin .mul (.v 1) (.bcall .len [.ix (.v 0) (.c (.int 1))]))) [.ret (.v 1)] []], .ret (.c (.int 0))]⟩
def d_law_integer : IFn := ⟨1, 1, [.ret (.and_ [.bcall .isinst [.v 0, .c (.ty "int")], .not_ (.bcall .isinst [.v 0, .c (.ty "bool")])])]⟩
def d_law_reads : IFn := ⟨1, 4, [.asg (.nm 1) (.c (.str [])), .for_ (.nm 2) (.v 0) [.ite (.cmp .eq (.ix (.v 2) (.c (.int 0))) (.c (.str [109, 97, 112]))) [.asg (.nm 1) (.bin .add (.v 1) (.meth (.c (.str [])) .join [.lc (.ix (.v 3) (.c (.int 0))) [3] (.nm 3) (.ix (.v 2) (.c (.int 1))) []]))] [.asg (.nm 1) (.bin .add (.v 1) (.ix (.v 2) (.c (.int 1))))]], .ret (.v 1)]⟩
def d_law_parts : IFn := ⟨2, 3, [.ret (.bin .add (.v 0) (.lc (.ix (.v 2) (.c (.int 1))) [2] (.nm 2) (.v 1) [.cmp .eq (.ix (.v 2) (.c (.int 0))) (.c (.str [114, 101, 112, 108, 97, 99, 101]))]))]⟩

/-! ### what is read -/
def Stp.reads : Stp → Tx
  | .repl old _ => old
  | .squ c => [c]
  | .map ps => ps.map (·.1)
theorem Stp.reads_len {st : Stp} (h : st.ok) : st.reads.length ≤ 100 := by
  cases st with
  | repl old new => have := h.2.1; simp only [Stp.reads]; omega
  | squ c => simp [Stp.reads]
  | map ps => have := h.2.2; simpa [Stp.reads] using this
theorem Stp.reads_of {st : Stp} {cs : List Nat} (h : st.of cs) : ∀ c ∈ st.reads, c ∈ cs := by
  cases st with
  | repl old new => exact h.1
  | squ c => intro d hd; simp [Stp.reads] at hd; subst hd; exact h
  | map ps =>
    intro d hd
    obtain ⟨p, hp, rfl⟩ := List.mem_map.mp hd
    exact (h p hp).1
theorem fst_chrs (ps : List (Nat × Tx)) : (ps.map fun p => AV.str [p.1]) = chrs (ps.map (·.1)) := by simp [chrs]
theorem joinO_chrs {t : Tx} (h : t.length ≤ 1000000) : joinO [] (strsOf (chrs t)) = some (.str t, false) := by
  rw [strsOf_chrs]
  have := sum_sing t
  simp [join_nil, flat_sing]
  simp at this
  rw [this]
  omega
theorem alphabet_ok {C C' : Oracle} (h : C "step_alphabet" = run C' dstep_alphabet) (st : Stp) (hp : List AV) (Q : AV → Bool → List AV → Prop) (E : AV → List AV → Prop) (ok : st.ok) (hr : ∀ c ∈ st.reads, c < 128) (hl : (sgn st.reads).length < 64)
    (k : Q (.str (sgn st.reads)) false hp) : (C "step_alphabet" [st.av] hp).W Q E := by
  have hlen := Stp.reads_len ok
  have fin : ∀ (o0 o1 o3 o4 o5 : Option (AV × Bool)), (exs C' [.ret (.meth (.c (.str [])) .join [.sset (.v 2)])] ⟨[o0, o1, some (.str st.reads, false), o3, o4, o5], hp⟩).W (fun fl s => rtW fl s Q) (fun x s => E x s.hp) := by
    intro o0 o1 o3 o4 o5
    refine W_cons ?_
    simp
    refine ⟨⟨hr, by omega, hl⟩, ?_⟩
    have := joinO_chrs (t := sgn st.reads) (by omega)
    unfold chrs at this
    simp [this]
    exact k
  rw [h]
  cases st with
  | repl old new =>
    refine W_run rfl ?_
    simp only [dstep_alphabet, startS, Stp.av]
    refine W_cons ?_
    simp [W_exM_cons, patB_tup, patB_any, patB_cap, patB_val, patsB_cons, patsB_nil, eqA_str, tR]
    refine W_cons ?_
    simp
    exact fin ..
  | squ c =>
    refine W_run rfl ?_
    simp only [dstep_alphabet, startS, Stp.av]
    refine W_cons ?_
    simp [W_exM_cons, patB_tup, patB_any, patB_cap, patB_val, patsB_cons, patsB_nil, eqA_str, tR, tS]
    refine W_cons ?_
    simp
    exact fin ..
  | map ps =>
    refine W_run rfl ?_
    simp only [dstep_alphabet, startS, Stp.av]
    refine W_cons ?_
    simp [W_exM_cons, patB_tup, patB_any, patB_cap, patB_val, patsB_cons, patsB_nil, eqA_str, tR, tS, tM]
    refine W_cons ?_
    simp
    have hpl := ok.2.2
    refine W_lc_inv (fun d acc s => ∃ d' : List (Nat × Tx), d = d'.map pairAV ∧ acc = d'.map (fun p => .str [p.1]) ∧ s = ⟨[some (.tup [.str [109, 97, 112], .tup (ps.map pairAV)], false), none, none, none, some (.tup (ps.map pairAV), false), none], hp⟩) ⟨[], rfl, rfl, rfl⟩ (by simp; omega) ?_ ?_ ?_
    · rintro d acc s ⟨d', rfl, rfl, _⟩
      simp
    · rintro d x r acc s K e ⟨d', rfl, rfl, rfl⟩ hK
      obtain ⟨d2, p, r', e1, e2, rfl, rfl⟩ := map_split e
      simp [pairAV, atX]
      exact hK _ _ ⟨d' ++ [p], by simp [pairAV], by simp, rfl⟩
    · rintro acc s ⟨d', e1, rfl, rfl⟩
      have e2 : d' = ps := by
        have inj : ∀ (a b : List (Nat × Tx)), a.map pairAV = b.map pairAV → a = b := by
          intro a b hab
          refine List.map_inj_right (f := pairAV) ?_ |>.mp hab
          rintro ⟨c, t⟩ ⟨c', t'⟩ hh
          simp [pairAV] at hh
          rw [hh.1, hh.2]
        exact (inj _ _ e1).symm
      subst e2
      rw [fst_chrs]
      have := joinO_chrs (t := d'.map (·.1)) (by simp; omega)
      simp [this]
      exact fin ..

/-! ### growth -/
def Stp.growth : Stp → Nat
  | .repl old new => max 1 ((new.length + old.length - 1) / old.length)
  | .squ _ => 1
  | .map ps => (ps.map (·.2.length)).foldl max 1
theorem foldl_maxN : ∀ (l : List Nat) (a : Nat), (l.map Int.ofNat).foldl max (a : Int) = ((l.foldl max a : Nat) : Int)
  | [], a => rfl
  | x :: l, a => by
    rw [List.map_cons, List.foldl_cons, List.foldl_cons, ← foldl_maxN l (max a x)]
    congr 1
    show max (a : Int) (x : Int) = ((max a x : Nat) : Int)
    omega
theorem le_foldl_max : ∀ (l : List Nat) (a : Nat), a ≤ l.foldl max a ∧ ∀ x ∈ l, x ≤ l.foldl max a
  | [], a => ⟨Nat.le_refl _, by simp⟩
  | y :: l, a => by
    obtain ⟨h1, h2⟩ := le_foldl_max l (max a y)
    rw [List.foldl_cons]
    refine ⟨by omega, fun x hx => ?_⟩
    rcases List.mem_cons.mp hx with z | z
    · subst z; omega
    · exact h2 x z
theorem foldl_max_le : ∀ (l : List Nat) (a m : Nat), a ≤ m → (∀ x ∈ l, x ≤ m) → l.foldl max a ≤ m
  | [], a, m, h, _ => h
  | y :: l, a, m, h, k => by
    rw [List.foldl_cons]
    exact foldl_max_le l _ m (by have := k y (by simp); omega) fun x hx => k x (List.mem_cons_of_mem _ hx)
theorem Stp.growth_pos (st : Stp) : 1 ≤ st.growth := by
  cases st with
  | repl old new => simp only [Stp.growth]; omega
  | squ c => exact Nat.le_refl _
  | map ps => exact (le_foldl_max _ _).1
theorem Stp.growth_le {st : Stp} (h : st.ok) : st.growth ≤ 40 := by
  cases st with
  | repl old new =>
    obtain ⟨h1, h2, h3⟩ := h
    have hl : 0 < old.length := List.length_pos_iff.mpr h1
    simp only [Stp.growth]
    have : (new.length + old.length - 1) / old.length ≤ 40 := by
      rw [Nat.div_le_iff_le_mul_add_pred hl]
      have : old.length * 1 ≤ old.length * 40 := Nat.mul_le_mul_left _ (by omega)
      have : 40 ≤ old.length * 40 := by omega
      omega
    omega
  | squ c => simp [Stp.growth]
  | map ps =>
    refine foldl_max_le _ _ _ (by omega) fun x hx => ?_
    obtain ⟨p, hp, rfl⟩ := List.mem_map.mp hx
    exact h.2.1 p hp
theorem repl_growth {old new : Tx} (h : old ≠ []) : new.length ≤ (Stp.repl old new).growth * old.length := by
  have hl : 0 < old.length := List.length_pos_iff.mpr h
  simp only [Stp.growth]
  have h1 : (new.length + old.length - 1) / old.length ≤ max 1 ((new.length + old.length - 1) / old.length) := Nat.le_max_right ..
  have h2 := Nat.mul_le_mul_right old.length h1
  have h3 := Nat.div_add_mod (new.length + old.length - 1) old.length
  have h4 := Nat.mod_lt (new.length + old.length - 1) hl
  rw [Nat.mul_comm] at h3
  omega
theorem replS_grow {old new : Tx} {g : Nat} (hg : 1 ≤ g) (ho : old ≠ []) (h : new.length ≤ g * old.length) : ∀ (t : Tx) (k : Nat), k ≤ t.length → (replS old new k t).length ≤ g * (t.length - k)
  | [], k, hk => by simp [replS]
  | c :: r, 0, hk => by
    rw [replS]
    split
    · rename_i hp
      have hpre := (List.isPrefixOf_iff_prefix.mp hp).length_le
      have hl : 0 < old.length := List.length_pos_iff.mpr ho
      simp only [List.length_cons] at hpre ⊢
      have ih := replS_grow hg ho h r (old.length - 1) (by omega)
      rw [List.length_append]
      have e : g * (r.length + 1 - 0) = g * old.length + g * (r.length - (old.length - 1)) := by
        rw [← Nat.mul_add]; congr 1; omega
      omega
    · have ih := replS_grow hg ho h r 0 (Nat.zero_le _)
      simp only [List.length_cons, Nat.sub_zero] at ih ⊢
      rw [Nat.mul_succ]; omega
  | c :: r, k + 1, hk => by
    rw [replS]
    have ih := replS_grow hg ho h r k (by simpa using hk)
    simp only [List.length_cons]
    rw [show r.length + 1 - (k + 1) = r.length - k by omega]
    exact ih
theorem flat_map_le {α : Type} {m : Nat} {f : α → Tx} : ∀ (t : List α), (∀ c ∈ t, (f c).length ≤ m) → (t.map f).flatten.length ≤ m * t.length
  | [], _ => by simp
  | c :: r, h => by
    have ih := flat_map_le r fun d hd => h d (List.mem_cons_of_mem _ hd)
    have := h c (by simp)
    rw [List.map_cons, List.flatten_cons, List.length_append, List.length_cons, Nat.mul_succ]
    omega
theorem Stp.run_grow {st : Stp} (h : st.ok) (t : Tx) : (st.run t).length ≤ st.growth * t.length := by
  cases st with
  | repl old new =>
    have := replS_grow (Stp.growth_pos (.repl old new)) h.1 (repl_growth h.1) t 0 (Nat.zero_le _)
    simpa [Stp.run, replX] using this
  | squ c =>
    have := squS_len c t false
    simpa [Stp.run, squX, Stp.growth] using this
  | map ps =>
    refine flat_map_le t fun c _ => ?_
    simp only [Stp.growth]
    obtain ⟨h1, h2⟩ := le_foldl_max (ps.map (·.2.length)) 1
    clear h
    have : ∀ (qs : List (Nat × Tx)), (∀ q ∈ qs, q ∈ ps) → (lookX qs c).length ≤ (ps.map (·.2.length)).foldl max 1 := by
      intro qs
      induction qs with
      | nil => intro _; simpa [lookX] using h1
      | cons q qs ih =>
        intro hq
        rw [lookX]
        split
        · exact h2 _ (List.mem_map_of_mem (hq q (by simp)))
        · exact ih fun x hx => hq x (List.mem_cons_of_mem _ hx)
    exact this ps fun _ h => h

theorem small64_lt {i : Int} (h0 : -1000000 ≤ i) (h1 : i ≤ 1000000) : small64 i := by
  unfold small64
  rw [show (2 : Int) ^ 64 = 18446744073709551616 by simp]
  omega
theorem mul_small {i j : Int} (h : small64 i) : bop .mul (.int i) (.int j) = some (.int (i * j), false) := by
  rw [bop_mul, if_pos (.inl h)]
/-! ### contracts -/
theorem maxI_lens (ls : List Nat) : maxI (1 :: ls.map Int.ofNat) = ((ls.foldl max 1 : Nat) : Int) := foldl_maxN ls 1
theorem intsOf_lens (ps : List (Nat × Tx)) : intsOf (.int 1 :: ps.map fun p => .int (p.2.length : Int)) = some (1 :: (ps.map (·.2.length)).map Int.ofNat) := by
  have := intsOf_map (1 :: (ps.map (·.2.length)).map Int.ofNat)
  simp at this
  simpa [Function.comp_def] using this
theorem map_lens (ps : List (Nat × Tx)) : maxI (1 :: (ps.map (·.2.length)).map Int.ofNat) = ((Stp.growth (.map ps) : Nat) : Int) := maxI_lens _
theorem growth_ok {C C' : Oracle} (h : C "step_growth" = run C' dstep_growth) (st : Stp) (hp : List AV) (Q : AV → Bool → List AV → Prop) (E : AV → List AV → Prop) (ok : st.ok)
    (k : Q (.int st.growth) false hp) : (C "step_growth" [st.av] hp).W Q E := by
  rw [h]
  cases st with
  | repl old new =>
    obtain ⟨h1, h2, h3⟩ := ok
    have hl : 0 < old.length := List.length_pos_iff.mpr h1
    refine W_run rfl ?_
    simp only [dstep_growth, startS, Stp.av]
    refine W_cons ?_
    simp [W_exM_cons, patB_tup, patB_any, patB_cap, patB_val, patsB_cons, patsB_nil, eqA_str, tR]
    refine W_cons ?_
    simp
    refine ⟨⟨h1, by omega⟩, ?_⟩
    have e : ((new.length : Int) + old.length - 1).fdiv old.length = (((new.length + old.length - 1) / old.length : Nat) : Int) := by
      rw [show (new.length : Int) + old.length - 1 = ((new.length + old.length - 1 : Nat) : Int) by omega, Int.fdiv_eq_ediv_of_nonneg _ (by omega)]
      rfl
    rw [e]
    have e2 : (if (1 : Int) < (((new.length + old.length - 1) / old.length : Nat) : Int) then (((new.length + old.length - 1) / old.length : Nat) : Int) else 1) = ((Stp.growth (.repl old new) : Nat) : Int) := by
      simp only [Stp.growth]
      split <;> omega
    rw [e2]
    exact k
  | squ c =>
    refine W_run rfl ?_
    simp only [dstep_growth, startS, Stp.av]
    refine W_cons ?_
    simp [W_exM_cons, patB_tup, patB_any, patB_cap, patB_val, patsB_cons, patsB_nil, eqA_str, tR, tS]
    refine W_cons ?_
    simp
    exact k
  | map ps =>
    refine W_run rfl ?_
    simp only [dstep_growth, startS, Stp.av]
    refine W_cons ?_
    simp [W_exM_cons, patB_tup, patB_any, patB_cap, patB_val, patsB_cons, patsB_nil, eqA_str, tR, tS, tM]
    refine W_cons ?_
    simp
    have hpl := ok.2.2
    refine W_lc_inv (fun d acc s => ∃ d' r' : List (Nat × Tx), ps = d' ++ r' ∧ d = d'.map pairAV ∧ acc = d'.map (fun p => .int (p.2.length : Int)) ∧ s = ⟨[some (.tup [.str [109, 97, 112], .tup (ps.map pairAV)], false), none, none, some (.tup (ps.map pairAV), false), none], hp⟩) ⟨[], ps, rfl, rfl, rfl, rfl⟩ (by simp; omega) ?_ ?_ ?_
    · rintro d acc s ⟨d', r', _, rfl, rfl, _⟩
      simp
    · rintro d x r acc s K e ⟨d', r', rfl, rfl, rfl, rfl⟩ hK
      rw [List.map_append] at e
      have e := List.append_cancel_left e
      cases r' with
      | nil => cases e
      | cons p r' =>
        cases e
        simp [pairAV, atX]
        exact hK _ _ ⟨d' ++ [p], r', by simp, by simp [pairAV], by simp, by simp [pairAV]⟩
    · rintro acc s ⟨d', r', e0, e1, rfl, rfl⟩
      have hr : r' = [] := by
        have := congrArg List.length e1
        rw [e0] at this
        simp at this
        exact this
      subst hr
      simp at e0
      subst e0
      simp
      refine ⟨by omega, ?_⟩
      rw [intsOf_lens]
      simp only [Option.bind_some, maxO_c, W_ofO_some]
      rw [map_lens]
      exact k
theorem le_mul (C : Oracle) (a : AV) (o : Option (AV × Bool)) (old new : Tx) (g : Int) (hp : List AV) (hm : bop .mul (.int g) (.int old.length) = some (.int (g * old.length), false)) (Q : Bool → S → Prop) (E : AV → S → Prop)
    (h : Q (decide ((new.length : Int) ≤ g * old.length)) ⟨[some (.tup [a, .str old, .str new], false), some (.int g, false), o], hp⟩) : (evT C (.cmp .le (.bcall .len [.ix (.v 0) (.c (.int 2))]) (.bin .mul (.v 1) (.bcall .len [.ix (.v 0) (.c (.int 1))]))) ⟨[some (.tup [a, .str old, .str new], false), some (.int g, false), o], hp⟩).W Q E := by
  simp [atX, -bop_mul, hm]
  exact h
theorem law_growth_ok {C C' : Oracle} (h : C "_law_growth" = run C' d_law_growth) (st : Stp) (hp : List AV) (Q : AV → Bool → List AV → Prop) (E : AV → List AV → Prop) (ok : st.ok)
    (k : Q (.int st.growth) false hp) : (C "_law_growth" [st.av] hp).W Q E := by
  rw [h]
  cases st with
  | repl old new =>
    have hg := repl_growth (new := new) ok.1
    have hle := Stp.growth_le ok
    have hpos := Stp.growth_pos (.repl old new)
    obtain ⟨h1, h2, h3⟩ := ok
    have hl : 0 < old.length := List.length_pos_iff.mpr h1
    refine W_run rfl ?_
    simp only [d_law_growth, startS, Stp.av]
    refine W_cons ?_
    simp [atX, eqA_str, tR]
    refine W_cons ?_
    simp [atX, eqA_str]
    refine W_cons ?_
    simp
    generalize hgr : (Stp.repl old new).growth = gr at hg hle hpos k
    refine W_for_rng (fun i s => i + 1 ≤ gr ∧ ∃ (o1 : Option (AV × Bool)), s = ⟨[some (.tup [.str [114, 101, 112, 108, 97, 99, 101], .str old, .str new], false), o1, none], hp⟩) ⟨by omega, _, rfl⟩ ?_ ?_
    · rintro i s K hi ⟨hig, o1, rfl⟩ hK
      simp
      refine W_cons ?_
      rw [W_if]
      refine le_mul _ _ _ _ _ _ _ (mul_small (small64_lt (by omega) (by omega))) _ _ ?_
      generalize hgi : (1 : Int) + i = gi
      simp only [decide_eq_true_eq]
      split
      · rename_i hle2
        refine W_cons ?_
        simp
        have e : gr = 1 + i := by
          have hle3 : new.length ≤ (1 + i) * old.length := by
            have : ((1 : Int) + i) * old.length = (((1 + i) * old.length : Nat) : Int) := by simp
            rw [← hgi] at hle2
            omega
          have hx : gr ≤ 1 + i := by
            rw [← hgr]
            simp only [Stp.growth]
            refine Nat.max_le.mpr ⟨by omega, ?_⟩
            rw [Nat.div_le_iff_le_mul_add_pred hl]
            rw [Nat.mul_comm] at hle3
            omega
          omega
        rw [e] at k
        rw [← hgi]
        simpa using k
      · rename_i hle2
        refine hK _ ⟨?_, _, rfl⟩
        by_cases hx : i + 1 + 1 ≤ gr
        · exact hx
        · exfalso
          apply hle2
          have : gr = 1 + i := by omega
          rw [this] at hg
          have : ((1 : Int) + i) * old.length = (((1 + i) * old.length : Nat) : Int) := by simp
          rw [← hgi]
          omega
    · rintro s ⟨hig, o1, rfl⟩
      exfalso
      simp at hig
      omega
  | squ c =>
    refine W_run rfl ?_
    simp only [d_law_growth, startS, Stp.av]
    refine W_cons ?_
    simp [atX, eqA_str, tS]
    refine W_cons ?_
    simp
    exact k
  | map ps =>
    refine W_run rfl ?_
    simp only [d_law_growth, startS, Stp.av]
    refine W_cons ?_
    simp [atX, eqA_str, tM]
    refine W_cons ?_
    simp [atX, eqA_str]
    refine W_cons ?_
    simp [atX]
    have hpl := ok.2.2
    refine W_lc_inv (fun d acc s => ∃ d' r' : List (Nat × Tx), ps = d' ++ r' ∧ d = d'.map pairAV ∧ acc = d'.map (fun p => .int (p.2.length : Int)) ∧ s = ⟨[some (.tup [.str [109, 97, 112], .tup (ps.map pairAV)], false), none, none], hp⟩) ⟨[], ps, rfl, rfl, rfl, rfl⟩ (by simp; omega) ?_ ?_ ?_
    · rintro d acc s ⟨d', r', _, rfl, rfl, _⟩
      simp
    · rintro d x r acc s K e ⟨d', r', rfl, rfl, rfl, rfl⟩ hK
      rw [List.map_append] at e
      have e := List.append_cancel_left e
      cases r' with
      | nil => cases e
      | cons p r' =>
        cases e
        simp [pairAV, atX]
        exact hK _ _ ⟨d' ++ [p], r', by simp, by simp [pairAV], by simp, by simp [pairAV]⟩
    · rintro acc s ⟨d', r', e0, e1, rfl, rfl⟩
      have hr : r' = [] := by
        have := congrArg List.length e1
        rw [e0] at this
        simp at this
        exact this
      subst hr
      simp at e0
      subst e0
      simp
      refine ⟨by omega, ?_⟩
      rw [intsOf_lens]
      simp only [Option.bind_some, maxO_c, W_ofO_some]
      rw [map_lens]
      exact k
theorem integer_ok {C C' : Oracle} (h : C "_law_integer" = run C' d_law_integer) (i : Int) (hp : List AV) (Q : AV → Bool → List AV → Prop) (E : AV → List AV → Prop) (k : Q (.bl true) false hp) : (C "_law_integer" [.int i] hp).W Q E := by
  rw [h]
  refine W_run rfl ?_
  simp only [d_law_integer, startS]
  refine W_cons ?_
  simp
  exact k

def readsL (sts : List Stp) : Tx := (sts.map Stp.reads).flatten
theorem readsL_len {sts : List Stp} (h : ∀ st ∈ sts, st.ok) : (readsL sts).length ≤ 100 * sts.length := flat_map_le sts fun st hs => Stp.reads_len (h st hs)
theorem reads_ok {C C' : Oracle} (h : C "_law_reads" = run C' d_law_reads) (sts : List Stp) (hp : List AV) (Q : AV → Bool → List AV → Prop) (E : AV → List AV → Prop) (ok : ∀ st ∈ sts, st.ok) (hl : sts.length ≤ 1000)
    (k : Q (.str (readsL sts)) false hp) : (C "_law_reads" [.lst (sts.map Stp.av)] hp).W Q E := by
  rw [h]
  refine W_run rfl ?_
  simp only [d_law_reads, startS]
  refine W_cons ?_
  simp
  refine W_cons ?_
  simp
  refine W_for_inv (fun d s => ∃ (ds rs : List Stp) (o2 : Option (AV × Bool)), sts = ds ++ rs ∧ d = ds.map Stp.av ∧ s = ⟨[some (.lst (sts.map Stp.av), false), some (.str (readsL ds), false), o2, none], hp⟩) ⟨[], sts, none, rfl, rfl, rfl⟩ ?_ ?_
  · rintro d x r s K e ⟨ds, rs, o2, rfl, rfl, rfl⟩ hK
    rw [List.map_append] at e
    have e := List.append_cancel_left e
    cases rs with
    | nil => cases e
    | cons st rs =>
      cases e
      have ho := ok st (by simp)
      have hrl := Stp.reads_len ho
      have hdl := readsL_len (sts := ds) fun x hx => ok x (List.mem_append_left _ hx)
      have hds : ds.length ≤ 1000 := by simp at hl; omega
      have fin : readsL (ds ++ [st]) = readsL ds ++ st.reads := by simp [readsL]
      have hfit : (readsL ds).length + st.reads.length ≤ 16777216 := by omega
      cases st with
      | repl old new =>
        simp
        refine W_cons ?_
        simp [Stp.av, atX, eqA_str, tR]
        refine W_cons ?_
        simp [atX]
        simp only [Stp.reads] at hfit fin
        refine ⟨hfit, ?_⟩
        exact hK _ ⟨ds ++ [.repl old new], rs, some (Stp.av (.repl old new), false), by simp, by simp [Stp.av, tR], by rw [fin]; simp [Stp.av, tR]⟩
      | squ c =>
        simp
        refine W_cons ?_
        simp [Stp.av, atX, eqA_str, tS]
        refine W_cons ?_
        simp [atX]
        simp only [Stp.reads] at hfit fin
        refine ⟨by simpa using hfit, ?_⟩
        exact hK _ ⟨ds ++ [.squ c], rs, some (Stp.av (.squ c), false), by simp, by simp [Stp.av, tS], by rw [fin]; simp [Stp.av, tS]⟩
      | map ps =>
        simp
        refine W_cons ?_
        simp [Stp.av, atX, eqA_str, tM]
        refine W_cons ?_
        simp [atX]
        have hpl := ho.2.2
        generalize hA : AV.lst (ds.map Stp.av ++ AV.tup [AV.str [109, 97, 112], AV.tup (ps.map pairAV)] :: rs.map Stp.av) = A
        refine W_lc_inv (fun d acc s => ∃ d' r' : List (Nat × Tx), ps = d' ++ r' ∧ d = d'.map pairAV ∧ acc = d'.map (fun p => .str [p.1]) ∧ s = ⟨[some (A, false), some (.str (readsL ds), false), some (.tup [.str [109, 97, 112], .tup (ps.map pairAV)], false), none], hp⟩) ⟨[], ps, rfl, rfl, rfl, rfl⟩ (by simp; omega) ?_ ?_ ?_
        · rintro d acc s ⟨d', r', _, rfl, rfl, _⟩
          simp
        · rintro d x r acc s K e ⟨d', r', rfl, rfl, rfl, rfl⟩ hK
          rw [List.map_append] at e
          have e := List.append_cancel_left e
          cases r' with
          | nil => cases e
          | cons p r' =>
            cases e
            simp [pairAV, atX]
            exact hK _ _ ⟨d' ++ [p], r', by simp, by simp [pairAV], by simp, by simp [pairAV]⟩
        · rintro acc s ⟨d', r', e0, e1, rfl, rfl⟩
          have hr : r' = [] := by
            have := congrArg List.length e1
            rw [e0] at this
            simp at this
            exact this
          subst hr
          simp at e0
          subst e0
          rw [fst_chrs]
          have hj := joinO_chrs (t := ps.map (·.1)) (by simp; omega)
          simp only [Stp.reads] at hfit fin
          simp [hj]
          refine ⟨by simpa using hfit, ?_⟩
          exact hK _ ⟨ds ++ [.map ps], rs, some (Stp.av (.map ps), false), by simp, by simp [Stp.av, tM], by rw [fin, ← hA]; simp [Stp.av, tM]⟩
  · rintro s ⟨ds, rs, o2, e0, e1, rfl⟩
    have hr : rs = [] := by
      have := congrArg List.length e1
      rw [e0] at this
      simp at this
      exact this
    subst hr
    simp at e0
    subst e0
    refine W_cons ?_
    simp
    exact k

section
variable {C : Oracle} {s : S} {E : AV → S → Prop}
/-- a comprehension with tests -/
theorem W_lcf_inv {elt : IE} {own : List Nat} {t : ITg} {cs : List IE} {xs : List AV} {Q : List AV → S → Prop} (I : List AV → List AV → S → Prop) (h0 : I [] [] s) (hL : xs.length ≤ LIM)
    (hI : ∀ d acc s, I d acc s → acc.length ≤ d.length)
    (h1 : ∀ d x r acc s (K : AV → S → Prop) (N : S → Prop), xs = d ++ x :: r → I d acc s → (∀ y s, I (d ++ [x]) (acc ++ [y]) s → K y s) → (∀ s, I (d ++ [x]) acc s → N s) →
      (ofO (asgT t x false s) s).W (fun s _ => (evC C cs s).W (fun k s => if k then (ev C elt s).W (fun y s => K y.1 ((s.esc y.2).wipe own)) E else N (s.wipe own)) E) E)
    (h2 : ∀ acc s, I xs acc s → Q acc s) : (lcI (lcF C elt own t cs) xs [] s).W Q E := by
  refine W_lcI xs [] [] s I h0 (fun d x r acc s e hi => ?_) (fun acc s h => h2 acc s h)
  rw [W_lcF]
  refine W.mono (h1 d x r acc s (fun y s => I (d ++ [x]) (acc ++ [y]) s) (fun s => I (d ++ [x]) acc s) e hi (fun _ _ h => h) fun _ h => h) (fun s _ h => W.mono h (fun k s h => ?_) fun _ _ h => h) fun _ _ h => h
  cases k with
  | false => exact h
  | true =>
    refine W.mono h (fun y s h => ⟨?_, h⟩) fun _ _ h => h
    have := hI d acc _ hi
    have e' := congrArg List.length e
    simp at e'
    omega
theorem W_lcf_rng {elt : IE} {own : List Nat} {t : ITg} {cs : List IE} {n : Nat} {lo : Int} {Q : List AV → S → Prop} (I : Nat → List AV → S → Prop) (h0 : I 0 [] s) (hL : n ≤ LIM)
    (hI : ∀ k acc s, I k acc s → acc.length ≤ k)
    (h1 : ∀ i acc s (K : AV → S → Prop) (N : S → Prop), i < n → I i acc s → (∀ y s, I (i + 1) (acc ++ [y]) s → K y s) → (∀ s, I (i + 1) acc s → N s) →
      (ofO (asgT t (.int (lo + i)) false s) s).W (fun s _ => (evC C cs s).W (fun k s => if k then (ev C elt s).W (fun y s => K y.1 ((s.esc y.2).wipe own)) E else N (s.wipe own)) E) E)
    (h2 : ∀ acc s, I n acc s → Q acc s) : (lcI (lcF C elt own t cs) (rngL lo n) [] s).W Q E := by
  have hl : (rngL lo n).length = n := by simp [rngL]
  refine W_lcf_inv (fun d acc s => d.length ≤ n ∧ I d.length acc s) ⟨Nat.zero_le _, h0⟩ (by rw [hl]; exact hL) (fun d acc s h => hI _ _ _ h.2) (fun d x r acc s K N e hi hK hN => ?_) fun acc s h => h2 acc s (hl ▸ h.2)
  have hlen := congrArg List.length e
  rw [hl] at hlen
  simp only [List.length_append, List.length_cons] at hlen
  have hx : x = .int (lo + d.length) := by
    have e1 : (rngL lo n)[d.length]? = some x := by rw [e]; simp
    unfold rngL at e1
    rw [List.getElem?_map, List.getElem?_range (by omega)] at e1
    exact (Option.some.inj e1).symm
  rw [hx]
  refine h1 d.length acc s K N (by omega) hi.2 (fun y s h => ?_) fun s h => ?_
  · exact hK y s ⟨by simp; omega, by simpa using h⟩
  · exact hN s ⟨by simp; omega, by simpa using h⟩
end

/-! ### ascending -/
theorem chX_lt {i j : Nat} (h : i < j) : chX i < chX j := by unfold chX; split <;> split <;> omega
theorem chX_128 {i : Nat} (h : i < 94) : chX i < 128 := by unfold chX; split <;> omega
/-- signs of the whole range -/
def AscC (t : Tx) : Prop := ∀ c ∈ t, ∃ i, i < 94 ∧ c = chX i
theorem AscC.small {t : Tx} (h : AscC t) : ∀ c ∈ t, c < 128 := fun c hc => by
  obtain ⟨i, hi, rfl⟩ := h c hc
  exact chX_128 hi
theorem sgn_chX {t : Tx} (h : AscC t) : sgn t = ((List.range 94).map chX).filter fun c => t.contains c := by
  refine rise_eq (sgn_rise t) (List.Pairwise.filter _ ?_) fun c => ?_
  · rw [List.pairwise_map]
    exact List.pairwise_lt_range.imp fun h => chX_lt h
  · rw [mem_sgn h.small]
    simp only [List.mem_filter, List.mem_map, List.mem_range, List.contains_eq_mem, decide_eq_true_eq]
    exact ⟨fun hc => ⟨let ⟨i, hi, e⟩ := h c hc; ⟨i, hi, e.symm⟩, hc⟩, fun hc => hc.2⟩
theorem infix_one {c : Nat} {t : Tx} : [c] <:+: t ↔ c ∈ t := by
  constructor
  · rintro ⟨a, b, e⟩
    rw [← e]; simp
  · intro h
    obtain ⟨a, b, e⟩ := List.append_of_mem h
    exact ⟨a, b, by rw [e]; simp⟩
theorem ascending_ok {C C' : Oracle} (h : C "_law_ascending" = run C' d_law_ascending) (hc : charOk C') (t : Tx) (hp : List AV) (Q : AV → Bool → List AV → Prop) (E : AV → List AV → Prop) (ha : AscC t)
    (k : Q (.str (sgn t)) false hp) : (C "_law_ascending" [.str t] hp).W Q E := by
  rw [h]
  refine W_run rfl ?_
  simp only [d_law_ascending, startS]
  refine W_cons ?_
  simp
  refine W_lcf_rng (fun i acc s => acc = chrs (((List.range i).map chX).filter fun c => t.contains c) ∧ s = ⟨[some (.str t, false), none], hp⟩) ⟨rfl, rfl⟩ ?_ ?_ ?_ ?_
  · show (94 : Nat) ≤ 16777216
    omega
  · rintro i acc s ⟨rfl, _⟩
    rw [chrs_len]
    refine Nat.le_trans (List.length_filter_le _ _) ?_
    simp
  · rintro i acc s K N hi ⟨rfl, rfl⟩ hK hN
    have e : ((0 : Int) + i).fmod 94 = (i : Int) := by
      rw [Int.zero_add, Int.fmod_eq_emod_of_nonneg _ (by decide)]
      omega
    have e2 : (i : Int).fmod 94 = (i : Int) := by rw [Int.zero_add] at e; exact e
    simp
    refine hc i hp _ _ ?_
    rw [e2]
    simp [infix_one]
    split
    · rename_i hm
      refine hc i hp _ _ ?_
      rw [e2]
      simp
      refine hK _ _ ⟨?_, rfl⟩
      rw [List.range_succ]
      simp [chrs, hm]
    · rename_i hm
      refine hN _ ⟨?_, rfl⟩
      rw [List.range_succ]
      simp [chrs, hm]
  · rintro acc s ⟨rfl, rfl⟩
    rw [← sgn_chX ha]
    have hj := joinO_chrs (t := sgn t) (Nat.le_trans (Nat.le_trans (List.length_filter_le _ _) (by simp)) (Nat.le_refl 1000000))
    simp [hj]
    exact k

/-! ### parts of texts -/
def oldsOf (sts : List Stp) : List Tx := sts.filterMap fun st => match st with
  | .repl old _ => some old
  | _ => none
theorem olds_ok {sts : List Stp} (ok : ∀ st ∈ sts, st.ok) : ∀ t ∈ oldsOf sts, t.length ≤ 20 := by
  intro t ht
  obtain ⟨st, hs, e⟩ := List.mem_filterMap.mp ht
  cases st with
  | repl old new => cases e; exact (ok _ hs).2.1
  | _ => cases e
theorem partsL_ok {C C' : Oracle} (h : C "_law_parts" = run C' d_law_parts) (cs : List Nat) (sts : List Stp) (hp : List AV) (Q : AV → Bool → List AV → Prop) (E : AV → List AV → Prop) (hl : cs.length ≤ 1000) (hsl : sts.length ≤ 1000)
    (k : Q (.lst (chrs cs ++ (oldsOf sts).map .str)) true hp) : (C "_law_parts" [.lst (chrs cs), .lst (sts.map Stp.av)] hp).W Q E := by
  rw [h]
  refine W_run rfl ?_
  simp only [d_law_parts, startS]
  refine W_cons ?_
  simp
  refine W_lcf_inv (fun d acc s => ∃ ds rs : List Stp, sts = ds ++ rs ∧ d = ds.map Stp.av ∧ acc = (oldsOf ds).map .str ∧ s = ⟨[some (.lst (chrs cs), false), some (.lst (sts.map Stp.av), false), none], hp⟩) ⟨[], sts, rfl, rfl, rfl, rfl⟩ ?_ ?_ ?_ ?_
  · simp
    omega
  · rintro d acc s ⟨ds, rs, _, rfl, rfl, _⟩
    simp only [List.length_map]
    exact List.length_filterMap_le ..
  · rintro d x r acc s K N e ⟨ds, rs, rfl, rfl, rfl, rfl⟩ hK hN
    rw [List.map_append] at e
    have e := List.append_cancel_left e
    cases rs with
    | nil => cases e
    | cons st rs =>
      cases e
      cases st with
      | repl old new =>
        simp [Stp.av, atX, eqA_str, tR]
        exact hK _ _ ⟨ds ++ [.repl old new], rs, by simp, by simp [Stp.av, tR], by simp [oldsOf], by simp [Stp.av, tR]⟩
      | squ c =>
        simp [Stp.av, atX, eqA_str, tS]
        exact hN _ ⟨ds ++ [.squ c], rs, by simp, by simp [Stp.av, tS], by simp [oldsOf], by simp [Stp.av, tS]⟩
      | map ps =>
        simp [Stp.av, atX, eqA_str, tM]
        exact hN _ ⟨ds ++ [.map ps], rs, by simp, by simp [Stp.av, tM], by simp [oldsOf], by simp [Stp.av, tM]⟩
  · rintro acc s ⟨ds, rs, e0, e1, rfl, rfl⟩
    have hr : rs = [] := by
      have := congrArg List.length e1
      rw [e0] at this
      simp at this
      exact this
    subst hr
    simp at e0
    subst e0
    simp
    refine ⟨?_, k⟩
    have : (oldsOf sts).length ≤ sts.length := List.length_filterMap_le ..
    omega
end Q
end

section
set_option linter.all false
set_option maxRecDepth 100000
set_option maxHeartbeats 1000000
/-! Lists: lists of steps: what they hold back, emit and leave; Steps, start, advance, finish. -/
namespace Q
/-! ### loops over data -/
section
variable {C : Oracle} {s : S} {Q : Fl → S → Prop} {E : AV → S → Prop} {β : Type}
theorem W_for_map {t : ITg} {body : List IS} (f : β → AV) (ys : List β) (I : List β → S → Prop) (h0 : I [] s)
    (h1 : ∀ d y r s (K : S → Prop), ys = d ++ y :: r → I d s → (∀ s, I (d ++ [y]) s → K s) → (ofO (asgT t (f y) false s) s).W (fun s' _ => (exs C body s').W (fun fl s => flL fl s K Q) E) E)
    (h2 : ∀ s, I ys s → Q .nx s) : (forB C t body (ys.map f) s).W Q E := by
  refine W_for_inv (fun d s => I (ys.take d.length) s) (by simpa using h0) (fun d x r s K e hi hK => ?_) (fun s h => h2 s (by simpa using h))
  have hl : d.length < ys.length := by
    have := congrArg List.length e
    simp at this
    omega
  obtain ⟨y, hy⟩ : ∃ y, ys[d.length]? = some y := ⟨_, List.getElem?_eq_getElem hl⟩
  have hx : x = f y := by
    have := congrArg (fun l : List AV => l[d.length]?) e
    simp [hy] at this
    exact this.symm
  subst hx
  have e2 : ys = ys.take d.length ++ y :: ys.drop (d.length + 1) := by
    have := List.drop_eq_getElem_cons hl
    rw [List.getElem?_eq_getElem hl] at hy
    cases hy
    rw [← this, List.take_append_drop]
  refine h1 _ y _ s K e2 hi fun s h => hK s ?_
  rw [List.length_append, List.length_singleton, List.take_add_one, hy]
  exact h
theorem enumP_get : ∀ (xs : List AV) (k : Int) (i : Nat), (enumL k xs)[i]? = (xs[i]?).map fun x => .tup [.int (k + i), x]
  | [], k, i => by simp [enumL]
  | x :: r, k, 0 => by simp [enumL]
  | x :: r, k, i + 1 => by
    rw [enumL, List.getElem?_cons_succ, enumP_get r, List.getElem?_cons_succ]
    have : k + 1 + (i : Int) = k + ((i + 1 : Nat) : Int) := by omega
    rw [this]
theorem enumP_len : ∀ (xs : List AV) (k : Int), (enumL k xs).length = xs.length
  | [], k => rfl
  | x :: r, k => by simp [enumL, enumP_len r]
theorem W_for_enum {t : ITg} {body : List IS} (f : β → AV) (ys : List β) (I : List β → S → Prop) (h0 : I [] s)
    (h1 : ∀ d y r s (K : S → Prop), ys = d ++ y :: r → I d s → (∀ s, I (d ++ [y]) s → K s) → (ofO (asgT t (.tup [.int d.length, f y]) false s) s).W (fun s' _ => (exs C body s').W (fun fl s => flL fl s K Q) E) E)
    (h2 : ∀ s, I ys s → Q .nx s) : (forB C t body (enumL 0 (ys.map f)) s).W Q E := by
  have e : enumL 0 (ys.map f) = ((List.range ys.length).zip ys).map fun p => .tup [.int p.1, f p.2] := by
    refine List.ext_getElem? fun i => ?_
    rw [enumP_get]
    by_cases hi : i < ys.length
    · simp [hi, List.getElem?_zip_eq_some]
    · simp [hi]
  rw [e]
  refine W_for_map _ _ (fun d s => I (d.map (·.2)) s) h0 (fun d y r s K e hi hK => ?_) (fun s h => h2 s ?_)
  · have hsnd : ys = d.map (·.2) ++ y.2 :: r.map (·.2) := by
      have := congrArg (List.map Prod.snd) e
      rw [List.map_snd_zip (by simp)] at this
      simpa using this
    have hfst : y.1 = d.length := by
      have := congrArg (fun l => (List.map Prod.fst l)[d.length]?) e
      simp only [List.map_fst_zip (l₁ := List.range ys.length) (l₂ := ys) (by simp)] at this
      have hl : d.length < ys.length := by
        have := congrArg List.length e
        simp at this
        omega
      simp [hl] at this
      exact this.symm
    rw [hfst]
    have := h1 (d.map (·.2)) y.2 (r.map (·.2)) s K hsnd hi fun s h => hK s (by simpa using h)
    simpa using this
  · rw [List.map_snd_zip (by simp)] at h
    exact h
theorem zipL_map {α β : Type} (f : α → AV) (g : β → AV) : ∀ (xs : List α) (ys : List β), zipL (xs.map f) (ys.map g) = (xs.zip ys).map fun p => .tup [f p.1, g p.2]
  | [], ys => by simp [zipL]
  | x :: r, [] => by simp [zipL]
  | x :: r, y :: q => by simp [zipL, zipL_map f g r q]
end
section
variable {C : Oracle} {s : S} {E : AV → S → Prop} {β : Type}
theorem W_lc_map {elt : IE} {own : List Nat} {t : ITg} {Q : List AV → S → Prop} (f : β → AV) (ys : List β) (I : List β → List AV → S → Prop) (h0 : I [] [] s) (hL : ys.length ≤ LIM)
    (hI : ∀ d acc s, I d acc s → acc.length ≤ d.length)
    (h1 : ∀ d y r acc s (K : AV → S → Prop), ys = d ++ y :: r → I d acc s → (∀ z s, I (d ++ [y]) (acc ++ [z]) s → K z s) → (ofO (asgT t (f y) false s) s).W (fun s _ => (ev C elt s).W (fun y s => K y.1 ((s.esc y.2).wipe own)) E) E)
    (h2 : ∀ acc s, I ys acc s → Q acc s) : (lcI (lcF C elt own t []) (ys.map f) [] s).W Q E := by
  refine W_lc_inv (fun d acc s => d.length ≤ ys.length ∧ I (ys.take d.length) acc s) ⟨by simp, by simpa using h0⟩ (by simpa using hL) (fun d acc s h => by have := hI _ _ _ h.2; simp at this; omega) (fun d x r acc s K e hi hK => ?_) (fun acc s h => h2 acc s (by simpa using h.2))
  have hl : d.length < ys.length := by
    have := congrArg List.length e
    simp at this
    omega
  obtain ⟨y, hy⟩ : ∃ y, ys[d.length]? = some y := ⟨_, List.getElem?_eq_getElem hl⟩
  have hx : x = f y := by
    have := congrArg (fun l : List AV => l[d.length]?) e
    simp [hy] at this
    exact this.symm
  subst hx
  have e2 : ys = ys.take d.length ++ y :: ys.drop (d.length + 1) := by
    have := List.drop_eq_getElem_cons hl
    rw [List.getElem?_eq_getElem hl] at hy
    cases hy
    rw [← this, List.take_append_drop]
  refine h1 _ y _ acc s K e2 hi.2 fun z s h => hK z s ⟨by simp; omega, ?_⟩
  rw [List.length_append, List.length_singleton, List.take_add_one, hy]
  exact h
/-- each item's value alone -/
theorem W_lc_fun {elt : IE} {own : List Nat} {t : ITg} {Q : List AV → S → Prop} (f : β → AV) (g : β → AV) (ys : List β) (hL : ys.length ≤ LIM)
    (h1 : ∀ y ∈ ys, ∀ K : AV → S → Prop, K (g y) s → (ofO (asgT t (f y) false s) s).W (fun s _ => (ev C elt s).W (fun y s => K y.1 ((s.esc y.2).wipe own)) E) E)
    (h2 : Q (ys.map g) s) : (lcI (lcF C elt own t []) (ys.map f) [] s).W Q E := by
  refine W_lc_map f ys (fun d acc s' => s' = s ∧ acc = d.map g) ⟨rfl, rfl⟩ hL (fun d acc s h => by rw [h.2]; simp) ?_ ?_
  · rintro d y r acc s' K e ⟨rfl, rfl⟩ hK
    exact h1 y (by rw [e]; simp) K (hK _ _ ⟨rfl, by simp⟩)
  · rintro acc s' ⟨rfl, rfl⟩
    exact h2
/-- drawn values: the heap changes -/
theorem W_lc_draw {elt : IE} {own : List Nat} {t : ITg} {n : Nat} {lo : Int} {Q : List AV → S → Prop} {sl : List (Option (AV × Bool))} {hp : List AV} (g : β → AV) (J : Nat → List β → List AV → Prop) (h0 : J 0 [] hp) (hL : n ≤ LIM)
    (h1 : ∀ k zs hp (K : AV → S → Prop), k < n → zs.length = k → J k zs hp → (∀ z hp, J (k + 1) (zs ++ [z]) hp → K (g z) ⟨sl, hp⟩) → (ofO (asgT t (.int (lo + k)) false ⟨sl, hp⟩) ⟨sl, hp⟩).W (fun s _ => (ev C elt s).W (fun y s => K y.1 ((s.esc y.2).wipe own)) E) E)
    (h2 : ∀ zs hp, zs.length = n → J n zs hp → Q (zs.map g) ⟨sl, hp⟩) : (lcI (lcF C elt own t []) (rngL lo n) [] ⟨sl, hp⟩).W Q E := by
  refine W_lc_rng (fun k acc s => ∃ zs hp, s = ⟨sl, hp⟩ ∧ acc = zs.map g ∧ zs.length = k ∧ J k zs hp) ⟨[], hp, rfl, rfl, rfl, h0⟩ hL ?_ ?_ ?_
  · rintro k acc s ⟨zs, hp, rfl, rfl, h, _⟩
    simp [h]
  · rintro k acc s K hk ⟨zs, hp, rfl, rfl, h, hJ⟩ hK
    exact h1 k zs hp K hk h hJ fun z hp hj => hK _ _ ⟨zs ++ [z], hp, rfl, by simp, by simp [h], hj⟩
  · rintro acc s ⟨zs, hp, rfl, rfl, h, hJ⟩
    exact h2 zs hp h hJ
/-- .. a name's list is frozen by the first turn -/
theorem W_lc_drawB {elt : IE} {own : List Nat} {t : ITg} {n : Nat} {lo : Int} {Q : List AV → S → Prop} {hp : List AV} {b0 : Bool} (SL : Bool → List (Option (AV × Bool))) (g : β → AV) (J : Nat → List β → List AV → Prop) (h0 : J 0 [] hp) (hL : n ≤ LIM)
    (h1 : ∀ k zs hp b (K : AV → S → Prop), k < n → zs.length = k → J k zs hp → (∀ z hp, J (k + 1) (zs ++ [z]) hp → K (g z) ⟨SL false, hp⟩) → (ofO (asgT t (.int (lo + k)) false ⟨SL b, hp⟩) ⟨SL b, hp⟩).W (fun s _ => (ev C elt s).W (fun y s => K y.1 ((s.esc y.2).wipe own)) E) E)
    (h2 : ∀ zs hp b, zs.length = n → J n zs hp → Q (zs.map g) ⟨SL b, hp⟩) : (lcI (lcF C elt own t []) (rngL lo n) [] ⟨SL b0, hp⟩).W Q E := by
  refine W_lc_rng (fun k acc s => ∃ zs hp b, s = ⟨SL b, hp⟩ ∧ acc = zs.map g ∧ zs.length = k ∧ J k zs hp) ⟨[], hp, b0, rfl, rfl, rfl, h0⟩ hL ?_ ?_ ?_
  · rintro k acc s ⟨zs, hp, b, rfl, rfl, h, _⟩
    simp [h]
  · rintro k acc s K hk ⟨zs, hp, b, rfl, rfl, h, hJ⟩ hK
    exact h1 k zs hp b K hk h hJ fun z hp hj => hK _ _ ⟨zs ++ [z], hp, false, rfl, by simp, by simp [h], hj⟩
  · rintro acc s ⟨zs, hp, b, rfl, rfl, h, hJ⟩
    exact h2 zs hp b h hJ
end
/-! ### lists of steps -/
def growL : List Stp → Nat
  | [] => 1
  | st :: r => st.growth * growL r
theorem growL_app : ∀ (a b : List Stp), growL (a ++ b) = growL a * growL b
  | [], b => by simp [growL]
  | st :: r, b => by simp only [List.cons_append, growL, growL_app r b, Nat.mul_assoc]
theorem growL_pos : ∀ sts : List Stp, 1 ≤ growL sts
  | [] => Nat.le_refl _
  | st :: r => Nat.mul_le_mul (Stp.growth_pos st) (growL_pos r)
theorem growL_pre {a b : List Stp} : growL a ≤ growL (a ++ b) := by
  rw [growL_app]
  exact Nat.le_mul_of_pos_right _ (growL_pos b)
theorem growL_two : ∀ {sts : List Stp}, (∀ st ∈ sts, st.growth ≤ 2) → growL sts ≤ 2 ^ sts.length
  | [], _ => Nat.le_refl _
  | st :: r, h => by
    rw [growL, List.length_cons, Nat.pow_succ, Nat.mul_comm]
    exact Nat.mul_le_mul (growL_two fun x hx => h x (List.mem_cons_of_mem _ hx)) (h st (by simp))
theorem growL_one : ∀ {sts : List Stp}, (∀ st ∈ sts, st.growth ≤ 1) → growL sts ≤ 1
  | [], _ => Nat.le_refl _
  | st :: r, h => by
    rw [growL]
    exact Nat.mul_le_mul (h st (by simp)) (growL_one fun x hx => h x (List.mem_cons_of_mem _ hx))
/-- may be made to a list -/
structure OkL (sts : List Stp) : Prop where
  ok : ∀ st ∈ sts, st.ok
  len : sts.length ≤ 24
  grow : growL sts ≤ 1000
def runL (sts : List Stp) (t : Tx) : Tx := sts.foldl (fun t st => st.run t) t
def stepsAV (sts : List Stp) : AV := .ins "Steps" ["listed", "total"] [.lst (sts.map Stp.av), .int (growL sts)]
theorem runL_snoc (d : List Stp) (st : Stp) (t : Tx) : runL (d ++ [st]) t = st.run (runL d t) := by simp [runL]
theorem runL_len : ∀ (sts : List Stp) (t : Tx), (∀ st ∈ sts, st.ok) → (runL sts t).length ≤ growL sts * t.length
  | [], t, _ => by simp [runL, growL]
  | st :: r, t, h => by
    have h1 := Stp.run_grow (h st (by simp)) t
    have h2 := runL_len r (st.run t) fun x hx => h x (List.mem_cons_of_mem _ hx)
    show (runL r (st.run t)).length ≤ _
    rw [growL]
    refine Nat.le_trans h2 ?_
    rw [Nat.mul_comm st.growth, Nat.mul_assoc]
    exact Nat.mul_le_mul_left _ h1
abbrev PS := List (Stp × Tx)
def advP : PS → Tx → PS × Tx
  | [], t => ([], t)
  | (st, h) :: r, t => ((st, (st.rdT h t).1) :: (advP r (st.rdT h t).2).1, (advP r (st.rdT h t).2).2)
def finP : PS → Tx → Tx
  | [], c => c
  | (st, h) :: r, c => finP r ((st.rdT h c).2 ++ (st.rdT h c).1)
def runP : PS → Tx → Tx
  | [], t => t
  | (st, h) :: r, t => runP r (st.run (h ++ t))
def iniP (sts : List Stp) : PS := sts.map fun st => (st, [])
structure OkP (ps : PS) : Prop where
  ok : ∀ p ∈ ps, p.1.ok
  held : ∀ p ∈ ps, p.1.held p.2
theorem OkP.cons {p : Stp × Tx} {r : PS} (h : OkP (p :: r)) : p.1.ok ∧ p.1.held p.2 ∧ OkP r := ⟨h.ok p (by simp), h.held p (by simp), fun x hx => h.ok x (List.mem_cons_of_mem _ hx), fun x hx => h.held x (List.mem_cons_of_mem _ hx)⟩
theorem OkP.mk' {p : Stp × Tx} {r : PS} (a : p.1.ok) (b : p.1.held p.2) (h : OkP r) : OkP (p :: r) := ⟨fun x hx => by
  rcases List.mem_cons.mp hx with e | e
  · rw [e]; exact a
  · exact h.ok x e, fun x hx => by
  rcases List.mem_cons.mp hx with e | e
  · rw [e]; exact b
  · exact h.held x e⟩
theorem iniP_ok {sts : List Stp} (h : ∀ st ∈ sts, st.ok) : OkP (iniP sts) := ⟨fun p hp => by
  obtain ⟨st, hs, rfl⟩ := List.mem_map.mp hp
  exact h st hs, fun p hp => by
  obtain ⟨st, hs, rfl⟩ := List.mem_map.mp hp
  exact Stp.held_nil (h st hs)⟩
theorem iniP_fst (sts : List Stp) : (iniP sts).map (·.1) = sts := by
  unfold iniP
  rw [List.map_map]
  exact List.map_id sts
theorem advP_fst : ∀ (ps : PS) (t : Tx), (advP ps t).1.map (·.1) = ps.map (·.1)
  | [], t => rfl
  | (st, h) :: r, t => by simp [advP, advP_fst r]
theorem advP_len1 (ps : PS) (t : Tx) : (advP ps t).1.length = ps.length := by
  have := congrArg List.length (advP_fst ps t)
  simpa using this
theorem advP_ok : ∀ (ps : PS) (t : Tx), OkP ps → OkP (advP ps t).1
  | [], t, h => h
  | (st, h) :: r, t, k => by
    obtain ⟨a, b, c⟩ := k.cons
    exact OkP.mk' a (Stp.rdT_held a t h b) (advP_ok r _ c)
theorem advP_nil : ∀ ps : PS, advP ps [] = (ps, [])
  | [] => rfl
  | (st, h) :: r => by simp [advP, Stp.rdT, advP_nil r]
theorem advP_app : ∀ (ps : PS) (a b : Tx), advP ps (a ++ b) = ((advP (advP ps a).1 b).1, (advP ps a).2 ++ (advP (advP ps a).1 b).2)
  | [], a, b => rfl
  | (st, h) :: r, a, b => by
    simp only [advP, Stp.rdT_app]
    rw [advP_app r]
theorem advP_snoc : ∀ (d : PS) (st : Stp) (h : Tx) (t : Tx), advP (d ++ [(st, h)]) t = ((advP d t).1 ++ [(st, (st.rdT h (advP d t).2).1)], (st.rdT h (advP d t).2).2)
  | [], st, h, t => rfl
  | (st', h') :: r, st, h, t => by
    simp only [List.cons_append, advP]
    rw [advP_snoc r]
theorem finP_snoc : ∀ (d : PS) (st : Stp) (h : Tx) (c : Tx), finP (d ++ [(st, h)]) c = (st.rdT h (finP d c)).2 ++ (st.rdT h (finP d c)).1
  | [], st, h, c => rfl
  | (st', h') :: r, st, h, c => by
    simp only [List.cons_append, finP]
    rw [finP_snoc r]
theorem adv_fin : ∀ (ps : PS) (e c : Tx), OkP ps → (advP ps e).2 ++ finP (advP ps e).1 c = runP ps (e ++ c)
  | [], e, c, _ => rfl
  | (st, h) :: r, e, c, k => by
    obtain ⟨a, b, k⟩ := k.cons
    have h1 := Stp.rdT_run a (e ++ c) h b
    rw [Stp.rdT_app] at h1
    simp only [advP, finP, runP]
    rw [adv_fin r _ _ k, ← h1, List.append_assoc]
theorem fin_run (ps : PS) (c : Tx) (h : OkP ps) : finP ps c = runP ps c := by
  have := adv_fin ps [] c h
  rw [advP_nil] at this
  simpa using this
theorem runP_ini : ∀ (sts : List Stp) (t : Tx), runP (iniP sts) t = runL sts t
  | [], t => rfl
  | st :: r, t => by
    show runP (iniP r) (st.run ([] ++ t)) = runL r (st.run t)
    rw [runP_ini]; rfl
/-- all that was emitted, and the end -/
theorem whole_run (sts : List Stp) (t : Tx) (h : ∀ st ∈ sts, st.ok) : (advP (iniP sts) t).2 ++ finP (advP (iniP sts) t).1 [] = runL sts t := by
  rw [adv_fin _ _ _ (iniP_ok h), List.append_nil, runP_ini]
theorem runP_len : ∀ (ps : PS) (t : Tx), OkP ps → (runP ps t).length ≤ growL (ps.map (·.1)) * (t.length + 20 * ps.length)
  | [], t, _ => by simp [runP, growL]
  | (st, h) :: r, t, k => by
    obtain ⟨a, b, k⟩ := k.cons
    have h1 := Stp.run_grow a (h ++ t)
    have h2 := runP_len r (st.run (h ++ t)) k
    have h3 := Stp.held_len a b
    have hp := Stp.growth_pos st
    simp only [runP, List.map_cons, growL, List.length_cons]
    simp only [List.length_append] at h1
    refine Nat.le_trans h2 ?_
    rw [Nat.mul_comm st.growth, Nat.mul_assoc]
    refine Nat.mul_le_mul_left _ ?_
    have h4 : 20 * r.length ≤ st.growth * (20 * r.length) := Nat.le_mul_of_pos_left _ hp
    have h5 : st.growth * h.length ≤ st.growth * 20 := Nat.mul_le_mul_left _ h3
    have h6 : st.growth * (h.length + t.length) = st.growth * h.length + st.growth * t.length := Nat.mul_add ..
    have h7 : st.growth * (t.length + 20 * (r.length + 1)) = st.growth * t.length + (st.growth * (20 * r.length) + st.growth * 20) := by
      rw [← Nat.mul_add, ← Nat.mul_add]
      congr 1
    omega
theorem runP_le {ps : PS} {t : Tx} (k : OkP ps) (hg : growL (ps.map (·.1)) ≤ 1000) (hl : ps.length ≤ 24) (ht : t.length ≤ 9000) : (runP ps t).length ≤ 10000000 := by
  have h1 := runP_len ps t k
  have h2 : growL (ps.map (·.1)) * (t.length + 20 * ps.length) ≤ 1000 * (9000 + 20 * 24) := Nat.mul_le_mul hg (by omega)
  omega
theorem advP_le {ps : PS} {t : Tx} (k : OkP ps) (hg : growL (ps.map (·.1)) ≤ 1000) (hl : ps.length ≤ 24) (ht : t.length ≤ 9000) : (advP ps t).2.length ≤ 10000000 := by
  have h1 := congrArg List.length (adv_fin ps t [] k)
  rw [List.append_nil, List.length_append] at h1
  have := runP_le k hg hl ht
  omega
theorem OkP.pre {d r : PS} (k : OkP (d ++ r)) : OkP d := ⟨fun p hp => k.ok p (List.mem_append_left _ hp), fun p hp => k.held p (List.mem_append_left _ hp)⟩
def heldAV (ps : PS) : AV := .tup (ps.map fun p => .str p.2)
/-- what reads a list -/
structure OkQ (ps : PS) : Prop where
  ok : OkP ps
  len : ps.length ≤ 24
  grow : growL (ps.map (·.1)) ≤ 1000
theorem OkQ.pre {d r : PS} (k : OkQ (d ++ r)) : OkQ d := ⟨k.ok.pre, by have := k.len; simp at this; omega, by have := k.grow; rw [List.map_append] at this; exact Nat.le_trans growL_pre this⟩
theorem OkQ.adv {ps : PS} (k : OkQ ps) (t : Tx) : OkQ (advP ps t).1 := ⟨advP_ok ps t k.ok, by rw [advP_len1]; exact k.len, by rw [advP_fst]; exact k.grow⟩
theorem OkL.ini {sts : List Stp} (k : OkL sts) : OkQ (iniP sts) := ⟨iniP_ok k.ok, by simp [iniP, k.len], by rw [iniP_fst]; exact k.grow⟩
end Q
end

section
set_option linter.all false
set_option maxRecDepth 100000
set_option maxHeartbeats 1000000
/-! Lists2: Steps, start, advance, finish: what they do. -/
namespace Q
def dSteps : IIni := ⟨2, 6, [.asg (.nm 2) (.bcall .list [.v 1]), .ite (.cmp .gt (.bcall .len [.v 2]) (.c (.int 24))) [.stk] [], .for_ (.tp [5, 4]) (.enum (.v 2)) [.ite (.not_ (.call "is_step" [.v 4])) [.stk] []], .asg (.nm 3) (.c (.int 1)), .for_ (.nm 4) (.v 2) [.asg (.nm 3) (.bin .mul (.v 3) (.call "step_growth" [.v 4]))], .ite (.cmp .gt (.v 3) (.c (.int 1000))) [.stk] []], [("listed", .v 2), ("total", .v 3)]⟩
def dSteps_o___call__ : IFn := ⟨2, 3, [.for_ (.nm 2) (.attr (.v 0) "listed" []) [.asg (.nm 1) (.call "run_step" [.v 2, .v 1])], .ret (.v 1)]⟩
def dSteps_o___len__ : IFn := ⟨1, 1, [.ret (.bcall .len [.attr (.v 0) "listed" []])]⟩
def dSteps_o_alphabet : IFn := ⟨1, 3, [.asg (.nm 1) (.meth (.c (.str [])) .join [.lc (.call "step_alphabet" [.v 2]) [2] (.nm 2) (.attr (.v 0) "listed" []) []]), .ret (.meth (.c (.str [])) .join [.sset (.v 1)])]⟩
def dSteps_o_growth : IFn := ⟨1, 1, [.ret (.attr (.v 0) "total" [])]⟩
def d_law_run : IFn := ⟨2, 3, [.for_ (.nm 2) (.v 0) [.ite (.cmp .eq (.ix (.v 2) (.c (.int 0))) (.c (.str [114, 101, 112, 108, 97, 99, 101]))) [.asg (.nm 1) (.meth (.v 1) .replace [.ix (.v 2) (.c (.int 1)), .ix (.v 2) (.c (.int 2))])] [.ite (.cmp .eq (.ix (.v 2) (.c (.int 0))) (.c (.str [115, 113, 117, 101, 101, 122, 101]))) [.asg (.nm 1) (.call "_law_squeezed" [.ix (.v 2) (.c (.int 1)), .v 1])] [.asg (.nm 1) (.call "_law_mapped" [.ix (.v 2) (.c (.int 1)), .v 1])]]], .ret (.v 1)]⟩
def dadvance : IFn := ⟨3, 6, [.asg (.nm 3) (.lst []), .for_ (.tp [4, 5]) (.zipi "Steps" "listed" (.v 0) (.v 1)) [.asg (.tp [5, 2]) (.call "read_text" [.v 4, .v 5, .v 2]), .app 3 (.v 5)], .ret (.tup [.bcall .tuple [.v 3], .v 2])]⟩
def dfinish : IFn := ⟨2, 6, [.asg (.nm 2) (.c (.str [])), .for_ (.tp [3, 4]) (.zipi "Steps" "listed" (.v 0) (.v 1)) [.asg (.tp [4, 5]) (.call "read_text" [.v 3, .v 4, .v 2]), .asg (.nm 2) (.bin .add (.v 5) (.v 4))], .ret (.v 2)]⟩
def dstart : IFn := ⟨1, 1, [.ret (.bin .mul (.tup [.c (.str [])]) (.dun "__len__" ["Steps"] (.v 0) []))]⟩
section
variable {C : Oracle} {Q : AV → Bool → List AV → Prop} {E : AV → List AV → Prop}
theorem W_evF_nil {n : Nat} {s : S} {Q : List AV → S → Prop} {E : AV → S → Prop} : (evF C n [] s).W Q E = Q [] s := by simp [evF]
theorem W_evF_cons {n : Nat} {f : String} {e : IE} {r : List (String × IE)} {s : S} {Q : List AV → S → Prop} {E : AV → S → Prop} : (evF C n ((f, e) :: r) s).W Q E = (ev C e s).W (fun x s => isMe n ((s.esc x.2).get 0) = true ∧ (evF C n r (s.esc x.2)).W (fun xs s => Q (x.1 :: xs) s) E) E := by
  rw [evF, W_bind]
  congr
  funext x s
  by_cases h : isMe n ((s.esc x.2).get 0) = true
  · simp [h]
  · simp [h]
def flI (fl : Fl) (K : Prop) : Prop :=
  match fl with
  | .nx => K
  | _ => False
@[simp] theorem flI_nx (K : Prop) : flI .nx K = K := rfl
theorem W_runI {c : String} {f : IIni} {as : List AV} {hp : List AV} (hl : as.length + 1 = f.np) (h : (exs C f.pre (startS f.nn (.ref hp.length :: as) (hp ++ [.non]))).W (fun fl s => flI fl ((evF C hp.length f.fs s).W (fun vs s => Q (.ins c (f.fs.map (·.1)) vs) false s.hp) (fun x s => E x s.hp))) (fun x s => E x s.hp)) : (runI c C f as hp).W Q E := by
  unfold runI
  rw [if_pos hl]
  cases he : exs C f.pre (startS f.nn (.ref hp.length :: as) (hp ++ [.non])) with
  | stuck => rw [he] at h; exact h
  | exc x s => rw [he] at h; exact h
  | ok fl s =>
    rw [he] at h
    cases fl with
    | nx =>
      have h : ((evF C hp.length f.fs s).W (fun vs s => Q (.ins c (f.fs.map (·.1)) vs) false s.hp) (fun x s => E x s.hp)) := h
      cases he2 : evF C hp.length f.fs s with
      | stuck => rw [he2] at h; exact h.elim
      | exc x s => rw [he2] at h; simp only [he2]; exact h
      | ok vs s => rw [he2] at h; simp only [he2]; exact h
    | _ => exact h.elim
end
@[simp] theorem dunW_S {C : Oracle} {sts : List Stp} {d : String} {es : List IE} {Q : AV × Md → S → Prop} {E : AV → S → Prop} {s : S} : dunW C (stepsAV sts) d ["Steps"] es Q E s = (evs C es s).W (fun xs s => (C ("Steps" ++ "." ++ d) (stepsAV sts :: xs) s.hp).W (fun v b hp => dunOk d v = true ∧ Q (v, mdOf b) ⟨s.sl, hp⟩) (fun x hp => E x ⟨s.sl, hp⟩)) E := by
  unfold stepsAV
  rw [dunW_i, if_pos (by decide)]
@[simp] theorem attrW_S {C : Oracle} {sts : List Stp} {f : String} {Q : AV × Md → S → Prop} {E : AV → S → Prop} {s : S} : attrW C (stepsAV sts) f ["Steps"] Q E s = (C ("Steps" ++ "." ++ f) [stepsAV sts] s.hp).W (fun v b hp => Q (v, mdOf b) ⟨s.sl, hp⟩) (fun x hp => E x ⟨s.sl, hp⟩) := by
  unfold stepsAV
  rw [attrW_i, if_pos (by decide)]
@[simp] theorem attrW_L {C : Oracle} {sts : List Stp} {Q : AV × Md → S → Prop} {E : AV → S → Prop} {s : S} : attrW C (stepsAV sts) "listed" [] Q E s = Q (.lst (sts.map Stp.av), .fz) s := by
  unfold stepsAV
  rw [attrW_i, if_neg (by decide)]
  simp [insGet]
@[simp] theorem zipiW_S {sts : List Stp} {ys : List AV} {Q : List AV → S → Prop} {s : S} : zipiW "Steps" "listed" (stepsAV sts) (.tup ys) Q s = Q (zipL (sts.map Stp.av) ys) s := by
  unfold stepsAV
  simp [insGet]
def stepOk (C : Oracle) : Prop := ∀ (st : Stp) (hp : List AV) (Q : AV → Bool → List AV → Prop) (E : AV → List AV → Prop), st.ok → Q (.bl true) false hp → (C "is_step" [st.av] hp).W Q E
def growOk (C : Oracle) : Prop := ∀ (st : Stp) (hp : List AV) (Q : AV → Bool → List AV → Prop) (E : AV → List AV → Prop), st.ok → Q (.int st.growth) false hp → (C "step_growth" [st.av] hp).W Q E
theorem steps_ok {C C' : Oracle} (h : C "Steps" = runI "Steps" C' dSteps) (hS : stepOk C') (hG : growOk C') (sts : List Stp) (v : AV) (hp : List AV) (Q : AV → Bool → List AV → Prop) (E : AV → List AV → Prop) (k : OkL sts) (hv : v = .lst (sts.map Stp.av) ∨ v = .tup (sts.map Stp.av))
    (hq : Q (stepsAV sts) false (hp ++ [.non])) : (C "Steps" [v] hp).W Q E := by
  rw [h]
  refine W_runI rfl ?_
  have hlen := k.len
  have key : (exs C' dSteps.pre.tail ⟨[some (.ref hp.length, false), some (v, false), some (.lst (sts.map Stp.av), true), none, none, none], hp ++ [.non]⟩).W (fun fl s => flI fl ((evF C' hp.length dSteps.fs s).W (fun vs s => Q (.ins "Steps" (dSteps.fs.map (·.1)) vs) false s.hp) (fun x s => E x s.hp))) (fun x s => E x s.hp) := by
    simp only [dSteps, List.tail_cons]
    refine W_cons ?_
    simp
    have h24 : ¬ (24 : Int) < sts.length := by omega
    simp [h24]
    refine W_cons ?_
    rw [W_for]
    rw [evI]
    simp
    refine W_for_enum Stp.av sts (fun d s => ∃ o4 o5, s = ⟨[some (.ref hp.length, false), some (v, false), some (.lst (sts.map Stp.av), false), none, o4, o5], hp ++ [.non]⟩) ⟨none, none, rfl⟩ ?_ ?_
    · rintro d st r s K e ⟨o4, o5, rfl⟩ hK
      simp [S.putAll]
      refine W_cons ?_
      simp
      refine hS st _ _ _ (k.ok st (by rw [e]; simp)) ?_
      simp
      exact hK _ ⟨_, _, rfl⟩
    · rintro s ⟨o4, o5, rfl⟩
      simp
      refine W_cons ?_
      simp
      refine W_cons ?_
      simp
      refine W_for_map Stp.av sts (fun d s => ∃ o4, s = ⟨[some (.ref hp.length, false), some (v, false), some (.lst (sts.map Stp.av), false), some (.int (growL d), false), o4, o5], hp ++ [.non]⟩) ⟨o4, rfl⟩ ?_ ?_
      · rintro d st r s K e ⟨o4, rfl⟩ hK
        simp
        refine W_cons ?_
        simp
        have ok := k.ok st (by rw [e]; simp)
        refine hG st _ _ _ ok ?_
        have hg := Stp.growth_le ok
        simp
        refine ⟨Or.inr ⟨by omega, by omega⟩, ?_⟩
        refine hK _ ⟨some (st.av, false), ?_⟩
        rw [growL_app]
        simp [growL]
      · rintro s ⟨o4, rfl⟩
        have h1000 : ¬ (1000 : Int) < growL sts := by have := k.grow; omega
        simp
        refine W_cons ?_
        simp
        simp [h1000]
        rw [W_evF_cons]
        simp
        rw [W_evF_cons]
        simp
        rw [W_evF_nil]
        exact hq
  rcases hv with rfl | rfl
  · simp only [dSteps, startS] at key ⊢
    refine W_cons ?_
    simp
    exact key
  · simp only [dSteps, startS] at key ⊢
    refine W_cons ?_
    simp
    exact key
theorem len_ok {C C' : Oracle} (h : C "Steps.__len__" = run C' dSteps_o___len__) (sts : List Stp) (hp : List AV) (Q : AV → Bool → List AV → Prop) (E : AV → List AV → Prop) (hq : Q (.int sts.length) false hp) : (C "Steps.__len__" [stepsAV sts] hp).W Q E := by
  rw [h]
  refine W_run rfl ?_
  simp only [dSteps_o___len__, startS]
  refine W_cons ?_
  simp
  exact hq
theorem total_ok {C C' : Oracle} (h : C "Steps.growth" = run C' dSteps_o_growth) (sts : List Stp) (hp : List AV) (Q : AV → Bool → List AV → Prop) (E : AV → List AV → Prop) (hq : Q (.int (growL sts)) false hp) : (C "Steps.growth" [stepsAV sts] hp).W Q E := by
  rw [h]
  refine W_run rfl ?_
  simp only [dSteps_o_growth, startS, stepsAV]
  refine W_cons ?_
  simp [insGet]
  exact hq
def lenOk (C : Oracle) : Prop := ∀ (sts : List Stp) (hp : List AV) (Q : AV → Bool → List AV → Prop) (E : AV → List AV → Prop), Q (.int sts.length) false hp → (C "Steps.__len__" [stepsAV sts] hp).W Q E
theorem start_ok {C C' : Oracle} (h : C "start" = run C' dstart) (hL : lenOk C') (sts : List Stp) (hp : List AV) (Q : AV → Bool → List AV → Prop) (E : AV → List AV → Prop) (hl : sts.length ≤ 24) (hq : Q (heldAV (iniP sts)) false hp) : (C "start" [stepsAV sts] hp).W Q E := by
  rw [h]
  refine W_run rfl ?_
  simp only [dstart, startS]
  refine W_cons ?_
  simp
  refine hL sts hp _ _ ?_
  simp
  have : List.replicate sts.length (AV.str []) = (iniP sts).map fun p => AV.str p.2 := by
    unfold iniP
    clear hq hl h
    induction sts with
    | nil => rfl
    | cons a r ih => simp [List.replicate_succ, ih]
  rw [this]
  exact ⟨by omega, ⟨by omega, by omega⟩, hq⟩
/-! ### reading -/
def rdTOk2 (C : Oracle) : Prop := ∀ (st : Stp) (h t : Tx) (hp : List AV) (Q : AV → Bool → List AV → Prop) (E : AV → List AV → Prop), st.ok → st.held h → t.length ≤ 10000000 → (st.rdT h t).2.length ≤ 10000000 → Q (prAV (st.rdT h t)) false hp → (C "read_text" [st.av, .str h, .str t] hp).W Q E
theorem rdT_ok2 {C C' : Oracle} (h : C "read_text" = run C' dread_text) (hr : rdOk C') : rdTOk2 C := by
  intro st hd t hp Q E ok hh ht hm k
  rw [h]
  refine W_run rfl ?_
  simp only [dread_text, startS]
  refine W_cons ?_
  simp
  refine W_cons ?_
  simp
  refine W_for_map (fun c => .str [c]) t (fun d s => ∃ (ts : List Tx) (o4 o5 : Option (AV × Bool)), ts.length = d.length ∧ ts.flatten = (st.rdT hd d).2 ∧ s = ⟨[some (st.av, false), some (.str (st.rdT hd d).1, false), some (.str t, false), some (.lst (ts.map .str), true), o4, o5], hp⟩) ⟨[], none, none, rfl, rfl, rfl⟩ ?_ ?_
  · rintro d c r s K e ⟨ts, o4, o5, htl, hf, rfl⟩ hK
    have hll : d.length + 1 ≤ t.length := by rw [e]; simp
    have hhd := Stp.rdT_held ok d hd hh
    simp
    refine W_cons ?_
    simp
    refine hr st _ c hp _ _ ok hhd ?_
    simp [prAV, S.putAll]
    refine W_cons ?_
    simp
    refine ⟨by omega, ?_⟩
    have hfst : (st.rdT hd (d ++ [c])).1 = (st.rd (st.rdT hd d).1 c).1 := by rw [Stp.rdT_app]; rfl
    have hsnd : (st.rdT hd (d ++ [c])).2 = (st.rdT hd d).2 ++ (st.rd (st.rdT hd d).1 c).2 := by rw [Stp.rdT_app]; simp [Stp.rdT]
    refine hK _ ⟨ts ++ [(st.rd (st.rdT hd d).1 c).2], some (.str [c], false), some (.str (st.rd (st.rdT hd d).1 c).2, false), by simp [htl], ?_, ?_⟩
    · rw [hsnd, List.flatten_append, hf]
      simp
    · rw [hfst, List.map_append]; rfl
  · rintro s ⟨ts, o4, o5, htl, hf, rfl⟩
    simp
    refine W_cons ?_
    simp [strsOf_map, join_nil]
    refine ⟨?_, ?_⟩
    · refine Nat.le_trans (Nat.le_of_eq (m := (st.rdT hd t).2.length) ?_) (by omega)
      rw [← hf]
      exact sum_flat _
    · rw [hf]
      exact k
theorem zip_S (ps : PS) : zipL ((ps.map (·.1)).map Stp.av) (ps.map fun p => AV.str p.2) = ps.map fun p => AV.tup [p.1.av, .str p.2] := by
  rw [List.map_map, zipL_map]
  induction ps with
  | nil => rfl
  | cons a r ih =>
    rw [List.zip_cons_cons, List.map_cons, List.map_cons]
    exact congrArg _ ih
def advOk (C : Oracle) : Prop := ∀ (ps : PS) (sts : List Stp) (t : Tx) (hp : List AV) (Q : AV → Bool → List AV → Prop) (E : AV → List AV → Prop), OkQ ps → ps.map (·.1) = sts → t.length ≤ 9000 → Q (.tup [heldAV (advP ps t).1, .str (advP ps t).2]) false hp → (C "advance" [stepsAV sts, heldAV ps, .str t] hp).W Q E
theorem adv_ok {C C' : Oracle} (h : C "advance" = run C' dadvance) (hr : rdTOk2 C') : advOk C := by
  rintro ps sts t hp Q E k rfl ht hq
  rw [h]
  refine W_run rfl ?_
  simp only [dadvance, startS]
  refine W_cons ?_
  simp
  refine W_cons ?_
  rw [W_for]
  refine W_zipi _ _ _ _ ?_
  simp [heldAV]
  have hz := zip_S ps
  rw [List.map_map] at hz
  rw [hz]
  refine W_for_map (fun p : Stp × Tx => AV.tup [p.1.av, .str p.2]) ps (fun d s => ∃ o4 o5, s = ⟨[some (stepsAV (ps.map (·.1)), false), some (heldAV ps, false), some (.str (advP d t).2, false), some (.lst ((advP d t).1.map fun p => .str p.2), true), o4, o5], hp⟩) ⟨none, none, rfl⟩ ?_ ?_
  · rintro d ⟨st, hd⟩ r s K e ⟨o4, o5, rfl⟩ hK
    have ok := k.ok.ok (st, hd) (by rw [e]; simp)
    have hh := k.ok.held (st, hd) (by rw [e]; simp)
    have k1 : OkQ d := by rw [e] at k; exact k.pre
    have k2 : OkQ (d ++ [(st, hd)]) := OkQ.pre (r := r) (by rw [List.append_assoc]; rw [e] at k; exact k)
    have b1 := advP_le k1.ok k1.grow k1.len ht
    have b2 := advP_le k2.ok k2.grow k2.len ht
    rw [advP_snoc] at b2
    have hdl := advP_len1 d t
    have hl2 := k1.len
    simp [S.putAll]
    refine W_cons ?_
    simp
    refine hr st hd _ hp _ _ ok hh b1 b2 ?_
    simp [prAV, S.putAll]
    refine W_cons ?_
    simp
    refine ⟨by omega, ?_⟩
    refine hK _ ⟨some (st.av, false), some (.str (st.rdT hd (advP d t).2).1, false), ?_⟩
    rw [advP_snoc]
    simp [heldAV]
  · rintro s ⟨o4, o5, rfl⟩
    simp
    refine W_cons ?_
    simp
    simp [heldAV] at hq
    exact hq
def finOk (C : Oracle) : Prop := ∀ (ps : PS) (sts : List Stp) (hp : List AV) (Q : AV → Bool → List AV → Prop) (E : AV → List AV → Prop), OkQ ps → ps.map (·.1) = sts → Q (.str (finP ps [])) false hp → (C "finish" [stepsAV sts, heldAV ps] hp).W Q E
theorem fin_ok {C C' : Oracle} (h : C "finish" = run C' dfinish) (hr : rdTOk2 C') : finOk C := by
  rintro ps sts hp Q E k rfl hq
  rw [h]
  refine W_run rfl ?_
  simp only [dfinish, startS]
  refine W_cons ?_
  simp
  refine W_cons ?_
  rw [W_for]
  refine W_zipi _ _ _ _ ?_
  simp [heldAV]
  have hz := zip_S ps
  rw [List.map_map] at hz
  rw [hz]
  refine W_for_map (fun p : Stp × Tx => AV.tup [p.1.av, .str p.2]) ps (fun d s => ∃ o4 o5 o6, s = ⟨[some (stepsAV (ps.map (·.1)), false), some (heldAV ps, false), some (.str (finP d []), false), o4, o5, o6], hp⟩) ⟨none, none, none, rfl⟩ ?_ ?_
  · rintro d ⟨st, hd⟩ r s K e ⟨o4, o5, o6, rfl⟩ hK
    have ok := k.ok.ok (st, hd) (by rw [e]; simp)
    have hh := k.ok.held (st, hd) (by rw [e]; simp)
    have k1 : OkQ d := by rw [e] at k; exact k.pre
    have k2 : OkQ (d ++ [(st, hd)]) := OkQ.pre (r := r) (by rw [List.append_assoc]; rw [e] at k; exact k)
    have b1 : (finP d []).length ≤ 10000000 := by rw [fin_run d [] k1.ok]; exact runP_le k1.ok k1.grow k1.len (by simp)
    have b2 : (finP (d ++ [(st, hd)]) []).length ≤ 10000000 := by rw [fin_run _ [] k2.ok]; exact runP_le k2.ok k2.grow k2.len (by simp)
    rw [finP_snoc, List.length_append] at b2
    simp [S.putAll]
    refine W_cons ?_
    simp
    refine hr st hd _ hp _ _ ok hh b1 (by omega) ?_
    simp [prAV, S.putAll]
    refine W_cons ?_
    simp
    refine ⟨by omega, ?_⟩
    refine hK _ ⟨some (st.av, false), some (.str (st.rdT hd (finP d [])).1, false), some (.str (st.rdT hd (finP d [])).2, false), ?_⟩
    rw [finP_snoc]
  · rintro s ⟨o4, o5, o6, rfl⟩
    simp
    refine W_cons ?_
    simp
    exact hq
def callOk (C : Oracle) : Prop := ∀ (sts : List Stp) (t : Tx) (hp : List AV) (Q : AV → Bool → List AV → Prop) (E : AV → List AV → Prop), (∀ st ∈ sts, st.ok) → growL sts * t.length ≤ 100000 → Q (.str (runL sts t)) false hp → (C "Steps.__call__" [stepsAV sts, .str t] hp).W Q E
theorem runL_pre {d r : List Stp} {t : Tx} (k : ∀ st ∈ d ++ r, st.ok) (hb : growL (d ++ r) * t.length ≤ 100000) : (runL d t).length ≤ 100000 := by
  have h1 := runL_len d t fun st h => k st (List.mem_append_left _ h)
  have h2 : growL d * t.length ≤ growL (d ++ r) * t.length := Nat.mul_le_mul_right _ growL_pre
  omega
theorem call_ok {C C' : Oracle} (h : C "Steps.__call__" = run C' dSteps_o___call__) (hr : runOk C') : callOk C := by
  intro sts t hp Q E k hb hq
  rw [h]
  refine W_run rfl ?_
  simp only [dSteps_o___call__, startS]
  refine W_cons ?_
  simp
  refine W_for_map Stp.av sts (fun d s => ∃ o2, s = ⟨[some (stepsAV sts, false), some (.str (runL d t), false), o2], hp⟩) ⟨none, rfl⟩ ?_ ?_
  · rintro d st r s K e ⟨o2, rfl⟩ hK
    have b1 := runL_pre (d := d) (r := st :: r) (t := t) (by rw [← e]; exact k) (by rw [← e]; exact hb)
    simp
    refine W_cons ?_
    simp
    refine hr st _ hp _ _ (k st (by rw [e]; simp)) b1 ?_
    simp
    refine hK _ ⟨some (st.av, false), ?_⟩
    rw [runL_snoc]
  · rintro s ⟨o2, rfl⟩
    simp
    refine W_cons ?_
    simp
    exact hq
def lawRunOk (C : Oracle) : Prop := ∀ (sts : List Stp) (t : Tx) (hp : List AV) (Q : AV → Bool → List AV → Prop) (E : AV → List AV → Prop), (∀ st ∈ sts, st.ok) → growL sts * t.length ≤ 100000 → Q (.str (runL sts t)) false hp → (C "_law_run" [.lst (sts.map Stp.av), .str t] hp).W Q E
theorem lawRun_ok {C C' C1 C2 : Oracle} (h : C "_law_run" = run C' d_law_run) (hs : C' "_law_squeezed" = run C1 d_law_squeezed) (hm : C' "_law_mapped" = run C2 d_law_mapped) : lawRunOk C := by
  intro sts t hp Q E k hb hq
  rw [h]
  refine W_run rfl ?_
  simp only [d_law_run, startS]
  refine W_cons ?_
  simp
  refine W_for_map Stp.av sts (fun d s => ∃ o2, s = ⟨[some (.lst (sts.map Stp.av), false), some (.str (runL d t), false), o2], hp⟩) ⟨none, rfl⟩ ?_ ?_
  · rintro d st r s K e ⟨o2, rfl⟩ hK
    have b1 := runL_pre (d := d) (r := st :: r) (t := t) (by rw [← e]; exact k) (by rw [← e]; exact hb)
    have b2 := runL_pre (d := d ++ [st]) (r := r) (t := t) (by rw [List.append_assoc, List.singleton_append, ← e]; exact k) (by rw [List.append_assoc, List.singleton_append, ← e]; exact hb)
    rw [runL_snoc] at b2
    have ok := k st (by rw [e]; simp)
    generalize hgen : runL d t = u at b1 b2
    have fin : K ⟨[some (.lst (sts.map Stp.av), false), some (.str (st.run u), false), some (st.av, false)], hp⟩ := hK _ ⟨_, by rw [runL_snoc, hgen]⟩
    simp
    refine W_cons ?_
    cases st with
    | repl old new =>
      simp only [Stp.run] at b2
      simp [Stp.av, atX, eqA_str, tR]
      refine W_cons ?_
      simp [atX, ok.1]
      refine ⟨by omega, ?_⟩
      simpa [Stp.av, tR, Stp.run] using fin
    | squ c =>
      simp [Stp.av, atX, eqA_str, tS]
      refine W_cons ?_
      simp [atX, eqA_str]
      refine W_cons ?_
      simp [atX]
      refine law_squeezed_ok hs u c hp _ _ (by omega) ?_
      simp
      simpa [Stp.av, tS, Stp.run] using fin
    | map ps =>
      simp [Stp.av, atX, eqA_str, tM]
      refine W_cons ?_
      simp [atX, eqA_str]
      refine W_cons ?_
      simp [atX]
      refine law_mapped_ok hm u ps (.tup (ps.map pairAV)) rfl hp _ _ ok.1 ok.2.1 (by omega) ?_
      simp
      simpa [Stp.av, tM, Stp.run] using fin
  · rintro s ⟨o2, rfl⟩
    simp
    refine W_cons ?_
    simp
    exact hq
end Q
end

section
set_option linter.all false
set_option maxRecDepth 100000
set_option maxHeartbeats 1000000
/-! Lists3: drawn lists of steps; the alphabet of a list. -/
namespace Q
def d_law_step : IFn := ⟨2, 9, [.asg (.nm 2) (.call "_law_draw" [.v 0, .c (.int 8)]), .ite (.cmp .eq (.v 2) (.c (.int 0))) [.ret (.tup [.c (.str [115, 113, 117, 101, 101, 122, 101]), .ix (.v 1) (.call "_law_draw" [.v 0, .bcall .len [.v 1]])])] [], .ite (.cmp .eq (.v 2) (.c (.int 1))) [.asg (.nm 4) (.bin .add (.c (.int 1)) (.call "_law_draw" [.v 0, .bcall .len [.v 1]])), .asg (.nm 5) (.call "_law_draw" [.v 0, .bcall .len [.v 1]]), .asg (.nm 6) (.lst []), .for_ (.nm 7) (.rng1 (.v 4)) [.asg (.nm 8) (.call "_law_word" [.v 0, .v 1, .call "_law_draw" [.v 0, .c (.int 3)]]), .app 6 (.tup [.ix (.v 1) (.bin .mod (.bcall .int [.bin .add (.v 7) (.v 5)]) (.bcall .len [.v 1])), .v 8])], .ret (.tup [.c (.str [109, 97, 112]), .bcall .tuple [.v 6]])] [], .asg (.nm 3) (.call "_law_word" [.v 0, .v 1, .bin .add (.c (.int 1)) (.call "_law_draw" [.v 0, .c (.int 3)])]), .ret (.tup [.c (.str [114, 101, 112, 108, 97, 99, 101]), .v 3, .call "_law_word" [.v 0, .v 1, .call "_law_draw" [.v 0, .bin .add (.bcall .len [.v 3]) (.c (.int 2))]]])]⟩
def d_law_list : IFn := ⟨3, 4, [.ret (.lc (.call "_law_step" [.v 0, .v 1]) [3] (.nm 3) (.rng1 (.call "_law_draw" [.v 0, .v 2])) [])]⟩
def d_law_light : IFn := ⟨2, 3, [.asg (.nm 2) (.call "_law_word" [.v 0, .v 1, .bin .add (.c (.int 1)) (.call "_law_draw" [.v 0, .c (.int 3)])]), .ite (.cmp .eq (.call "_law_draw" [.v 0, .c (.int 3)]) (.c (.int 0))) [.ret (.tup [.c (.str [115, 113, 117, 101, 101, 122, 101]), .ix (.v 1) (.call "_law_draw" [.v 0, .bcall .len [.v 1]])])] [], .ret (.tup [.c (.str [114, 101, 112, 108, 97, 99, 101]), .v 2, .call "_law_word" [.v 0, .v 1, .call "_law_draw" [.v 0, .bin .add (.bcall .len [.v 2]) (.c (.int 1))]]])]⟩
def d_law_any : IFn := ⟨2, 3, [.ite (.cmp .eq (.call "_law_draw" [.v 0, .c (.int 3)]) (.c (.int 0))) [.asg (.nm 2) (.lst [.call "_law_step" [.v 0, .sl (.v 1) (.c .non) (.c (.int 3))], .call "_law_kind" [.v 0, .v 1], .call "_law_step" [.v 0, .sl (.v 1) (.c .non) (.c (.int 3))]]), .ret (.sl (.v 2) (.call "_law_draw" [.v 0, .c (.int 3)]) (.c .non))] [], .ret (.call "_law_list" [.v 0, .sl (.v 1) (.c .non) (.c (.int 3)), .c (.int 6)])]⟩
/-- a step that makes a text at most twice as long, with short texts -/
def Stp.small : Stp → Prop
  | .repl old new => old.length ≤ 3 ∧ new.length ≤ old.length + 1
  | .squ _ => True
  | .map ps => ∀ p ∈ ps, p.2.length ≤ 2
theorem maxI_le {k : Int} : ∀ (l : List Int) (a : Int), a ≤ k → (∀ x ∈ l, x ≤ k) → l.foldl max a ≤ k
  | [], a, h, _ => h
  | x :: r, a, h, g => maxI_le r (max a x) (by have := g x (by simp); omega) fun y hy => g y (List.mem_cons_of_mem _ hy)
theorem Stp.small_growth {st : Stp} (ok : st.ok) (h : st.small) : st.growth ≤ 2 := by
  cases st with
  | repl old new =>
    obtain ⟨h1, h2⟩ := h
    have h0 : 0 < old.length := List.length_pos_iff.mpr ok.1
    have : (new.length + old.length - 1) / old.length ≤ 2 := by
      rw [← Nat.lt_succ_iff, Nat.div_lt_iff_lt_mul h0]
      simp only [Nat.succ_eq_add_one]
      omega
    simp only [Stp.growth]
    omega
  | squ c => simp [Stp.growth]
  | map ps =>
    have := map_lens ps
    have h2 : maxI (1 :: (ps.map (·.2.length)).map Int.ofNat) ≤ 2 := by
      refine maxI_le _ _ (by decide) fun x hx => ?_
      obtain ⟨n, hn, rfl⟩ := List.mem_map.mp hx
      obtain ⟨p, hp, rfl⟩ := List.mem_map.mp hn
      have := h p hp
      show (p.2.length : Int) ≤ 2
      omega
    omega
def stepDOk (C : Oracle) (f : String) : Prop := ∀ (R hp : List AV) (cs : List Nat) (Q : AV → Bool → List AV → Prop) (E : AV → List AV → Prop), Pool R hp → 0 < cs.length → cs.length ≤ 50 → cs.Nodup →
  (∀ (st : Stp) hp', st.ok → st.of cs → st.small → Pool R hp' → Q st.av false hp') → (C f [.ref 0, .lst (chrs cs)] hp).W Q E
theorem stepD_ok {C C' : Oracle} {f : String} (h : C f = run C' d_law_step) (hD : drawOk C') (hW : wordOk C' "_law_word") : stepDOk C f := by
  intro R hp cs Q E hP hc0 hcl hnd k
  have hcs : cs ≠ [] := by intro h; simp [h] at hc0
  rw [h]
  refine W_run rfl ?_
  simp only [d_law_step, startS]
  refine W_cons ?_
  simp
  refine hD R hp 8 _ _ hP (by decide) (by decide) fun r1 hp1 a1 a2 hP1 => ?_
  simp
  refine W_cons ?_
  simp [eqA_int]
  split
  · refine W_cons ?_
    simp
    refine hD R hp1 cs.length _ _ hP1 (by omega) (by omega) fun r2 hp2 a3 a4 hP2 => ?_
    obtain ⟨c, hc, _, ac⟩ := atX_chrs (cs := cs) (r := r2) a3 (by omega)
    simp [ac]
    exact k (.squ c) hp2 trivial hc trivial hP2
  · refine W_cons ?_
    simp [eqA_int]
    split
    · refine W_cons ?_
      simp
      refine hD R hp1 cs.length _ _ hP1 (by omega) (by omega) fun r2 hp2 a3 a4 hP2 => ?_
      obtain ⟨many, hmany⟩ : ∃ n : Nat, 1 + r2 = n := ⟨(1 + r2).toNat, by omega⟩
      simp [hmany]
      refine W_cons ?_
      simp
      refine hD R hp2 cs.length _ _ hP2 (by omega) (by omega) fun r3 hp3 a5 a6 hP3 => ?_
      obtain ⟨turn, rfl⟩ : ∃ n : Nat, r3 = n := ⟨r3.toNat, by omega⟩
      simp
      refine W_cons ?_
      simp
      refine W_cons ?_
      simp
      refine ⟨by omega, ?_⟩
      refine W_for_rng (fun k s => ∃ (ps : List (Nat × Tx)) (o7 o8 : Option (AV × Bool)) (hp : List AV), s = ⟨[some (.ref 0, false), some (.lst (chrs cs), false), some (.int r1, false), none, some (.int many, false), some (.int turn, false), some (.lst (ps.map pairAV), true), o7, o8], hp⟩ ∧ Pool R hp ∧ ps.map (·.1) = keysR cs turn k ∧ ps.length = k ∧ ∀ p ∈ ps, p.2.length ≤ 2 ∧ p.1 ∈ cs ∧ ∀ c ∈ p.2, c ∈ cs) ⟨[], none, none, hp3, rfl, hP3, rfl, rfl, by simp⟩ ?_ ?_
      · rintro i s K hi ⟨ps, o7, o8, hp, rfl, hP, hks, hlen, hpl⟩ hK
        obtain ⟨cj, hcj, ej, aj⟩ := atX_chrsN (cs := cs) (i := (i + turn) % cs.length) (Nat.mod_lt _ hc0)
        have ff := fmod_natK i turn cs.length hc0
        simp at aj ff
        simp
        refine W_cons ?_
        simp
        refine hD R hp 3 _ _ hP (by decide) (by decide) fun r6 hp8 h10 h11 hP8 => ?_
        simp
        refine hW R hp8 cs r6 _ _ hP8 hcs (by omega) (by omega) (by omega) fun w hp9 hw1 hw2 hP9 => ?_
        simp
        refine W_cons ?_
        simp [ff, aj, hcs]
        refine ⟨by omega, ?_⟩
        refine hK _ ⟨ps ++ [(cj, w)], some (.int i, false), some (.str w, false), hp9, by rw [List.map_append]; rfl, hP9, ?_, by simp [hlen], ?_⟩
        · rw [keysR_succ, List.map_append, hks]
          simp [List.getD_eq_getElem?_getD, ej]
        · intro p hp
          rcases List.mem_append.mp hp with h | h
          · exact hpl p h
          · simp at h; subst h; exact ⟨by show w.length ≤ 2; omega, hcj, hw2⟩
      · rintro s ⟨ps, o7, o8, hp, rfl, hP, hks, hlen, hpl⟩
        have hn : (ps.map (·.1)).Nodup := by rw [hks]; exact keysR_nodup hnd (by omega)
        simp
        refine W_cons ?_
        simp
        exact k (.map ps) hp ⟨hn, fun p hp => by have := (hpl p hp).1; omega, by omega⟩ (fun p hp => (hpl p hp).2) (fun p hp => (hpl p hp).1) hP
    · refine W_cons ?_
      simp
      refine hD R hp1 3 _ _ hP1 (by decide) (by decide) fun r2 hp2 a3 a4 hP2 => ?_
      simp
      refine hW R hp2 cs (1 + r2) _ _ hP2 hcs (by omega) (by omega) (by omega) fun old hp3 ho1 ho2 hP3 => ?_
      simp
      refine W_cons ?_
      simp
      refine hD R hp3 (old.length + 2) _ _ hP3 (by omega) (by omega) fun r3 hp4 a5 a6 hP4 => ?_
      simp
      refine hW R hp4 cs r3 _ _ hP4 hcs (by omega) (by omega) (by omega) fun new hp5 hn1 hn2 hP5 => ?_
      simp
      exact k (.repl old new) hp5 ⟨by intro h; subst h; simp at ho1; omega, by omega, by omega⟩ ⟨ho2, hn2⟩ ⟨by omega, by omega⟩ hP5
/-- a drawn list -/
def listDOk (C : Oracle) (f : String) : Prop := ∀ (R hp : List AV) (cs : List Nat) (n : Int) (Q : AV → Bool → List AV → Prop) (E : AV → List AV → Prop), Pool R hp → 0 < cs.length → cs.length ≤ 50 → cs.Nodup → 0 < n → n ≤ 1000 →
  (∀ (sts : List Stp) hp', (sts.length : Int) < n → (∀ st ∈ sts, st.ok ∧ st.of cs ∧ st.small) → Pool R hp' → Q (.lst (sts.map Stp.av)) true hp') → (C f [.ref 0, .lst (chrs cs), .int n] hp).W Q E
theorem listD_ok {C C' : Oracle} {f : String} (h : C f = run C' d_law_list) (hD : drawOk C') (hS : stepDOk C' "_law_step") : listDOk C f := by
  intro R hp cs n Q E hP hc0 hcl hnd hn0 hn k
  rw [h]
  refine W_run rfl ?_
  simp only [d_law_list, startS]
  refine W_cons ?_
  simp
  refine hD R hp n _ _ hP hn0 (by omega) fun r1 hp1 a1 a2 hP1 => ?_
  simp
  refine ⟨by omega, by omega, ?_⟩
  refine W_lc_draw Stp.av (fun _ zs hp => Pool R hp ∧ ∀ st ∈ zs, st.ok ∧ st.of cs ∧ st.small) ⟨hP1, by simp⟩ (by simp; omega) ?_ ?_
  · rintro i zs hp K hi hl ⟨hP, hz⟩ hK
    simp
    refine hS R hp cs _ _ hP hc0 hcl hnd fun st hp' h1 h2 h3 hP' => ?_
    simp
    refine hK st hp' ⟨hP', fun x hx => ?_⟩
    rcases List.mem_append.mp hx with h | h
    · exact hz x h
    · simp at h; subst h; exact ⟨h1, h2, h3⟩
  · rintro zs hp hl ⟨hP, hz⟩
    simp
    exact k zs hp (by omega) hz hP
/-- a step that makes no text longer -/
def Stp.light : Stp → Prop
  | .repl old new => old.length ≤ 3 ∧ new.length ≤ old.length
  | .squ _ => True
  | .map _ => False
theorem Stp.light_growth {st : Stp} (ok : st.ok) (h : st.light) : st.growth ≤ 1 := by
  cases st with
  | repl old new =>
    obtain ⟨h1, h2⟩ := h
    have h0 : 0 < old.length := List.length_pos_iff.mpr ok.1
    have : (new.length + old.length - 1) / old.length ≤ 1 := by
      rw [← Nat.lt_succ_iff, Nat.div_lt_iff_lt_mul h0]
      omega
    simp only [Stp.growth]
    omega
  | squ c => simp [Stp.growth]
  | map ps => exact h.elim
theorem Stp.light_small {st : Stp} (h : st.light) : st.small := by
  cases st with
  | repl old new => exact ⟨h.1, by have := h.2; omega⟩
  | squ c => trivial
  | map ps => exact h.elim
def lightDOk (C : Oracle) : Prop := ∀ (R hp : List AV) (cs : List Nat) (Q : AV → Bool → List AV → Prop) (E : AV → List AV → Prop), Pool R hp → 0 < cs.length → cs.length ≤ 50 →
  (∀ (st : Stp) hp', st.ok → st.of cs → st.light → Pool R hp' → Q st.av false hp') → (C "_law_light" [.ref 0, .lst (chrs cs)] hp).W Q E
theorem lightD_ok {C C' : Oracle} (h : C "_law_light" = run C' d_law_light) (hD : drawOk C') (hW : wordOk C' "_law_word") : lightDOk C := by
  intro R hp cs Q E hP hc0 hcl k
  have hcs : cs ≠ [] := by intro h; simp [h] at hc0
  rw [h]
  refine W_run rfl ?_
  simp only [d_law_light, startS]
  refine W_cons ?_
  simp
  refine hD R hp 3 _ _ hP (by decide) (by decide) fun r2 hp2 a3 a4 hP2 => ?_
  simp
  refine hW R hp2 cs (1 + r2) _ _ hP2 hcs (by omega) (by omega) (by omega) fun old hp3 ho1 ho2 hP3 => ?_
  simp
  refine W_cons ?_
  simp
  refine hD R hp3 3 _ _ hP3 (by decide) (by decide) fun r3 hp4 a5 a6 hP4 => ?_
  simp [eqA_int]
  split
  · refine W_cons ?_
    simp
    refine hD R hp4 cs.length _ _ hP4 (by omega) (by omega) fun r4 hp5 a7 a8 hP5 => ?_
    obtain ⟨c, hc, _, ac⟩ := atX_chrs (cs := cs) (r := r4) a7 (by omega)
    simp [ac]
    exact k (.squ c) hp5 trivial hc trivial hP5
  · refine W_cons ?_
    simp
    refine hD R hp4 (old.length + 1) _ _ hP4 (by omega) (by omega) fun r4 hp5 a7 a8 hP5 => ?_
    simp
    refine hW R hp5 cs r4 _ _ hP5 hcs (by omega) (by omega) (by omega) fun new hp6 hn1 hn2 hP6 => ?_
    simp
    exact k (.repl old new) hp6 ⟨by intro h; subst h; simp at ho1; omega, by omega, by omega⟩ ⟨ho2, hn2⟩ ⟨by omega, by omega⟩ hP6
theorem okL_small {sts : List Stp} (h : ∀ st ∈ sts, st.ok ∧ st.small) (hl : sts.length ≤ 9) : OkL sts := by
  refine ⟨fun st hs => (h st hs).1, by omega, ?_⟩
  have h1 := growL_two (sts := sts) fun st hs => Stp.small_growth (h st hs).1 (h st hs).2
  have h2 : 2 ^ sts.length ≤ 2 ^ 9 := Nat.pow_le_pow_right (by decide) hl
  have : (2 : Nat) ^ 9 = 512 := by decide
  omega
/-- .. where more is known of them -/
theorem growL_small {sts : List Stp} (h : ∀ st ∈ sts, st.ok ∧ st.small) : growL sts ≤ 2 ^ sts.length := growL_two fun st hs => Stp.small_growth (h st hs).1 (h st hs).2
/-! ### the law's lists of any steps -/
def anyDOk (C : Oracle) (f : String) : Prop := ∀ (R hp : List AV) (cs : List Nat) (Q : AV → Bool → List AV → Prop) (E : AV → List AV → Prop), Pool R hp → cs.length = 4 → cs.Nodup →
  (∀ (sts : List Stp) hp', sts.length ≤ 5 → (∀ st ∈ sts, st.ok ∧ st.of cs) → growL sts ≤ 160 → Pool R hp' → Q (.lst (sts.map Stp.av)) true hp') → (C f [.ref 0, .lst (chrs cs)] hp).W Q E
theorem Stp.of_mono {st : Stp} {cs ds : List Nat} (h : st.of cs) (s : ∀ c ∈ cs, c ∈ ds) : st.of ds := by
  cases st with
  | repl old new => exact ⟨fun c hc => s c (h.1 c hc), fun c hc => s c (h.2 c hc)⟩
  | squ c => exact s c h
  | map ps => exact fun p hp => ⟨s _ (h p hp).1, fun c hc => s c ((h p hp).2 c hc)⟩
theorem cut_chrs (cs : List Nat) (n : Nat) : cutX (chrs cs) .non (.int n) = some (chrs (cs.take n)) := by
  rw [cut_to]
  simp [chrs]
theorem cutI_chrs (cs : List Nat) (n : Int) (h : 0 ≤ n) : cutX (chrs cs) .non (.int n) = some (chrs (cs.take n.toNat)) := by
  obtain ⟨m, rfl⟩ : ∃ m : Nat, n = m := ⟨n.toNat, by omega⟩
  rw [cut_chrs]
  simp
theorem anyD_ok {C C' : Oracle} {f : String} (h : C f = run C' d_law_any) (hD : drawOk C') (hS : stepDOk C' "_law_step") (hK : kindOk C' "_law_kind") (hL : listDOk C' "_law_list") : anyDOk C f := by
  intro R hp cs Q E hP hcl hnd k
  have ht : (cs.take 3).length = 3 := by simp; omega
  have hn3 : (cs.take 3).Nodup := hnd.sublist (List.take_sublist _ _)
  have hm3 : ∀ c ∈ cs.take 3, c ∈ cs := fun c hc => List.mem_of_mem_take hc
  have hcut := cutI_chrs cs 3 (by decide)
  simp at hcut
  rw [h]
  refine W_run rfl ?_
  simp only [d_law_any, startS]
  refine W_cons ?_
  simp
  refine hD R hp 3 _ _ hP (by decide) (by decide) fun r1 hp1 a1 a2 hP1 => ?_
  simp [eqA_int]
  split
  · refine W_cons ?_
    simp [hcut]
    refine hS R hp1 _ _ _ hP1 (by omega) (by omega) hn3 fun s1 hp2 h1 h2 h3 hP2 => ?_
    simp
    refine hK R hp2 cs _ _ hP2 hcl hnd fun s2 hp3 h4 h5 hP3 => ?_
    simp [hcut]
    refine hS R hp3 _ _ _ hP3 (by omega) (by omega) hn3 fun s3 hp4 h6 h7 h8 hP4 => ?_
    simp
    refine W_cons ?_
    simp
    refine hD R hp4 3 _ _ hP4 (by decide) (by decide) fun r2 hp5 a3 a4 hP5 => ?_
    obtain ⟨n, rfl⟩ : ∃ n : Nat, r2 = n := ⟨r2.toNat, by omega⟩
    have hc := cut_from [s1.av, s2.av, s3.av] n
    simp [hc]
    have e : List.drop n [s1.av, s2.av, s3.av] = (List.drop n [s1, s2, s3]).map Stp.av := by simp [List.map_drop]
    rw [e]
    have all : ∀ st ∈ [s1, s2, s3], st.ok ∧ st.of cs := by
      intro st hs
      simp at hs
      rcases hs with rfl | rfl | rfl
      · exact ⟨h1, Stp.of_mono h2 hm3⟩
      · exact ⟨h4, h5⟩
      · exact ⟨h6, Stp.of_mono h7 hm3⟩
    refine k (List.drop n [s1, s2, s3]) hp5 (by simp; omega) (fun st hs => all st (List.mem_of_mem_drop hs)) ?_ hP5
    have g1 := Stp.small_growth h1 h3
    have g2 := Stp.growth_le h4
    have g3 := Stp.small_growth h6 h8
    have g4 := Stp.growth_pos s1
    have e2 : growL [s1, s2, s3] ≤ 160 := by
      simp only [growL, Nat.mul_one]
      have : s2.growth * s3.growth ≤ 40 * 2 := Nat.mul_le_mul g2 g3
      have : s1.growth * (s2.growth * s3.growth) ≤ 2 * (40 * 2) := Nat.mul_le_mul g1 this
      omega
    have e3 : growL (List.drop n [s1, s2, s3]) ≤ growL [s1, s2, s3] := by
      have := growL_app (List.take n [s1, s2, s3]) (List.drop n [s1, s2, s3])
      rw [List.take_append_drop] at this
      rw [this]
      exact Nat.le_mul_of_pos_left _ (growL_pos _)
    omega
  · refine W_cons ?_
    simp [hcut]
    refine hL R hp1 _ 6 _ _ hP1 (by omega) (by omega) hn3 (by decide) (by decide) fun sts hp2 hl hs hP2 => ?_
    simp
    refine k sts hp2 (by omega) (fun st h => ⟨(hs st h).1, Stp.of_mono (hs st h).2.1 hm3⟩) ?_ hP2
    have := growL_small (sts := sts) fun st h => ⟨(hs st h).1, (hs st h).2.2⟩
    have h2 : 2 ^ sts.length ≤ 2 ^ 5 := Nat.pow_le_pow_right (by decide) (by omega)
    omega
/-! ### texts -/
theorem Pool.app {R hp : List AV} (h : Pool R hp) (l : List AV) : Pool (R ++ l) (hp ++ l) := by
  obtain ⟨p, h1, rfl⟩ := h
  exact ⟨p, h1, rfl⟩
def partsL (cs : List Nat) (sts : List Stp) : List Tx := (cs.map fun c => [c]) ++ oldsOf sts
theorem partsL_av (cs : List Nat) (sts : List Stp) : chrs cs ++ (oldsOf sts).map .str = (partsL cs sts).map .str := by
  unfold partsL chrs
  rw [List.map_append, List.map_map]
  rfl
theorem partsL_len {cs : List Nat} {sts : List Stp} {m : Nat} (h1 : 1 ≤ m) (h : ∀ t ∈ oldsOf sts, t.length ≤ m) : ∀ t ∈ partsL cs sts, t.length ≤ m := by
  intro t ht
  rcases List.mem_append.mp ht with k | k
  · obtain ⟨c, _, rfl⟩ := List.mem_map.mp k
    exact h1
  · exact h t k
theorem oldsOf_len (sts : List Stp) : (oldsOf sts).length ≤ sts.length := List.length_filterMap_le _ _
theorem olds_small {sts : List Stp} (h : ∀ st ∈ sts, st.small) : ∀ t ∈ oldsOf sts, t.length ≤ 3 := by
  intro t ht
  obtain ⟨st, hs, e⟩ := List.mem_filterMap.mp ht
  cases st with
  | repl old new => cases e; exact (h _ hs).1
  | _ => cases e
theorem olds_of {sts : List Stp} {cs : List Nat} (h : ∀ st ∈ sts, st.of cs) : ∀ t ∈ oldsOf sts, ∀ c ∈ t, c ∈ cs := by
  intro t ht
  obtain ⟨st, hs, e⟩ := List.mem_filterMap.mp ht
  cases st with
  | repl old new => cases e; exact (h _ hs).1
  | _ => cases e
theorem partsL_of {cs ds : List Nat} {sts : List Stp} (s : ∀ c ∈ cs, c ∈ ds) (h : ∀ st ∈ sts, st.of ds) : ∀ t ∈ partsL cs sts, ∀ c ∈ t, c ∈ ds := by
  intro t ht
  rcases List.mem_append.mp ht with k | k
  · obtain ⟨c, hc, rfl⟩ := List.mem_map.mp k
    intro d hd
    simp at hd
    subst hd
    exact s _ hc
  · exact olds_of h t k
def textDOk (C : Oracle) (f : String) : Prop := ∀ (R hp : List AV) (parts : List Tx) (n : Int) (m : Nat) (Q : AV → Bool → List AV → Prop) (E : AV → List AV → Prop), Pool R hp → parts ≠ [] → parts.length < 100000 → (∀ p ∈ parts, p.length ≤ m) → 0 ≤ n → n ≤ 3000 → m ≤ 40 →
  (∀ (ts : List Tx) hp', ts.length = n.toNat → (∀ t ∈ ts, t ∈ parts) → ts.flatten.length ≤ n.toNat * m → Pool R hp' → Q (.str ts.flatten) false hp') → (C f [.ref 0, .lst (parts.map .str), .int n] hp).W Q E
theorem textD_ok {C : Oracle} {f : String} (h : pickOk C f) : textDOk C f := by
  intro R hp parts n m Q E hP h0 hl hm hn0 hn1 hm2 k
  have hb : n.toNat * m ≤ 3000 * 40 := Nat.mul_le_mul (by omega) hm2
  refine h R hp _ n m _ _ hP (by simp [h0]) (by simp; omega) (fun y hy => ?_) (by omega) (by omega) (by omega) fun ts hp' h1 h2 hP' => ?_
  · obtain ⟨p, hp, rfl⟩ := List.mem_map.mp hy
    exact ⟨p, rfl, hm p hp⟩
  · have h3 : ∀ t ∈ ts, t ∈ parts := fun t ht => by
      obtain ⟨p, hp, e⟩ := List.mem_map.mp (h2 t ht)
      cases e
      exact hp
    have := flat_le (ts := ts) (m := m) fun t ht => hm t (h3 t ht)
    rw [h1] at this
    exact k ts hp' h1 h3 this hP'
theorem lpartsOk {C C' : Oracle} (h : C "_law_parts" = run C' d_law_parts) (cs : List Nat) (sts : List Stp) (hp : List AV) (Q : AV → Bool → List AV → Prop) (E : AV → List AV → Prop) (hl : cs.length ≤ 1000) (hsl : sts.length ≤ 1000)
    (k : Q (.lst ((partsL cs sts).map .str)) true hp) : (C "_law_parts" [.lst (chrs cs), .lst (sts.map Stp.av)] hp).W Q E := partsL_ok h cs sts hp Q E hl hsl (by rw [partsL_av]; exact k)
theorem cutT (t : Tx) (n : Nat) : cutX t .non (.int n) = some (t.take n) := cut_to t n
end Q
end

section
set_option linter.all false
set_option maxRecDepth 100000
set_option maxHeartbeats 1000000
/-! Lists4: how the laws read: one character, a text, the end. -/
namespace Q
def d_law_held : IFn := ⟨2, 3, [.ite (.or_ [.not_ (.bcall .isinst [.v 0, .c (.ty "tuple")]), .cmp .ne (.bcall .len [.v 0]) (.v 1)]) [.ret (.c (.bl false))] [], .for_ (.nm 2) (.v 0) [.ite (.not_ (.bcall .isinst [.v 2, .c (.ty "str")])) [.ret (.c (.bl false))] []], .ret (.c (.bl true))]⟩
def d_law_read : IFn := ⟨3, 6, [.ite (.cmp .eq (.ix (.v 0) (.c (.int 0))) (.c (.str [115, 113, 117, 101, 101, 122, 101]))) [.ite (.cmp .eq (.v 2) (.ix (.v 0) (.c (.int 1)))) [.ret (.tup [.v 2, .c (.str [])])] [], .ret (.tup [.c (.str []), .bin .add (.v 1) (.v 2)])] [], .ite (.cmp .eq (.ix (.v 0) (.c (.int 0))) (.c (.str [109, 97, 112]))) [.for_ (.nm 5) (.ix (.v 0) (.c (.int 1))) [.ite (.cmp .eq (.ix (.v 5) (.c (.int 0))) (.v 2)) [.ret (.tup [.c (.str []), .ix (.v 5) (.c (.int 1))])] []], .ret (.tup [.c (.str []), .v 2])] [], .asg (.nm 3) (.bin .add (.v 1) (.v 2)), .ite (.cmp .eq (.v 3) (.ix (.v 0) (.c (.int 1)))) [.ret (.tup [.c (.str []), .ix (.v 0) (.c (.int 2))])] [], .for_ (.nm 4) (.rng1 (.bcall .len [.v 3])) [.ite (.and_ [.cmp .lt (.bin .sub (.bcall .len [.v 3]) (.v 4)) (.bcall .len [.ix (.v 0) (.c (.int 1))]), .meth (.ix (.v 0) (.c (.int 1))) .startswith [.sl (.v 3) (.v 4) (.c .non)]]) [.ret (.tup [.sl (.v 3) (.v 4) (.c .non), .sl (.v 3) (.c .non) (.v 4)])] []], .ret (.tup [.c (.str []), .v 3])]⟩
def d_law_advance : IFn := ⟨3, 9, [.asg (.nm 3) (.lst []), .for_ (.nm 4) (.rng1 (.bcall .len [.v 0])) [.asg (.nm 5) (.ix (.v 1) (.v 4)), .asg (.nm 6) (.c (.str [])), .for_ (.nm 7) (.v 2) [.asg (.nm 8) (.call "_law_read" [.ix (.v 0) (.v 4), .v 5, .v 7]), .asg (.nm 5) (.ix (.v 8) (.c (.int 0))), .asg (.nm 6) (.bin .add (.v 6) (.ix (.v 8) (.c (.int 1))))], .app 3 (.v 5), .asg (.nm 2) (.v 6)], .ret (.tup [.bcall .tuple [.v 3], .v 2])]⟩
def d_law_finish : IFn := ⟨2, 8, [.asg (.nm 2) (.c (.str [])), .for_ (.nm 3) (.rng1 (.bcall .len [.v 0])) [.asg (.nm 4) (.ix (.v 1) (.v 3)), .asg (.nm 5) (.c (.str [])), .for_ (.nm 6) (.v 2) [.asg (.nm 7) (.call "_law_read" [.ix (.v 0) (.v 3), .v 4, .v 6]), .asg (.nm 4) (.ix (.v 7) (.c (.int 0))), .asg (.nm 5) (.bin .add (.v 5) (.ix (.v 7) (.c (.int 1))))], .asg (.nm 2) (.bin .add (.v 5) (.v 4))], .ret (.v 2)]⟩
theorem law_read_ok {C C' : Oracle} (h : C "_law_read" = run C' d_law_read) (st : Stp) (hd : Tx) (c : Nat) (hp : List AV) (Q : AV → Bool → List AV → Prop) (E : AV → List AV → Prop) (ok : st.ok) (hh : st.held hd)
    (k : Q (prAV (st.rd hd c)) false hp) : (C "_law_read" [st.av, .str hd, .str [c]] hp).W Q E := by
  have hl := Stp.held_len ok hh
  rw [h]
  cases st with
  | repl old new =>
    refine W_run rfl ?_
    simp only [d_law_read, startS, Stp.av]
    refine W_cons ?_
    simp [atX, eqA_str, tR]
    refine W_cons ?_
    simp [atX, eqA_str]
    refine W_cons ?_
    simp
    refine ⟨by omega, ?_⟩
    simp only [Stp.rd] at k
    generalize ht : hd ++ [c] = t at k
    have htl : t.length ≤ 21 := by rw [← ht]; simp; omega
    refine W_cons ?_
    simp [atX, eqA_str]
    unfold rdOld at k
    split
    · rename_i he
      rw [if_pos he] at k
      refine W_cons ?_
      simp [atX]
      exact k
    · rename_i he
      rw [if_neg he] at k
      refine W_cons ?_
      simp
      refine ⟨by omega, ?_⟩
      refine W_for_rng (fun i s => ∃ o4, s = ⟨[some (.tup [.str [114, 101, 112, 108, 97, 99, 101], .str old, .str new], false), some (.str hd, false), some (.str [c], false), some (.str t, false), o4, none], hp⟩ ∧ ∀ j, j < i → rdP old t j = false) ⟨none, rfl, by simp⟩ ?_ ?_
      · rintro i s K hi ⟨o3, rfl, hj⟩ hK
        simp
        refine W_cons ?_
        simp [cut_from, cut_to, atX]
        by_cases h1 : t.length - i < old.length
        · have h1' : (t.length : Int) - i < old.length := by omega
          simp [h1']
          by_cases h2 : t.drop i <+: old
          · simp [h2]
            have hf : (List.range t.length).find? (rdP old t) = some i := by
              rw [List.find?_range_eq_some]
              exact ⟨by unfold rdP; rw [decide_eq_true h1, List.isPrefixOf_iff_prefix.mpr h2]; rfl, List.mem_range.mpr hi, fun j h => by simp [hj j h]⟩
            rw [hf] at k
            refine W_cons ?_
            simp [cut_from, cut_to]
            exact k
          · simp [h2]
            refine hK _ ⟨_, rfl, fun j h => ?_⟩
            by_cases e : j = i
            · subst e
              unfold rdP
              rw [Bool.eq_false_iff]
              simp [h2]
            · exact hj j (by omega)
        · have h1' : ¬ (t.length : Int) - i < old.length := by omega
          simp [h1']
          refine hK _ ⟨_, rfl, fun j h => ?_⟩
          by_cases e : j = i
          · subst e
            unfold rdP
            rw [decide_eq_false h1]; rfl
          · exact hj j (by omega)
      · rintro s ⟨o3, rfl, hj⟩
        have hf : (List.range t.length).find? (rdP old t) = none := by
          rw [List.find?_range_eq_none]
          exact fun j h => by simp [hj j h]
        rw [hf] at k
        simp
        refine W_cons ?_
        simp
        exact k
  | squ a =>
    refine W_run rfl ?_
    simp only [d_law_read, startS, Stp.av]
    refine W_cons ?_
    simp [atX, eqA_str, tS]
    simp only [Stp.rd] at k
    refine W_cons ?_
    simp [atX, eqA_str]
    split
    · rename_i e
      subst e
      rw [if_pos rfl] at k
      refine W_cons ?_
      simp
      exact k
    · rename_i e
      rw [if_neg e] at k
      refine W_cons ?_
      simp
      exact ⟨by omega, k⟩
  | map ps =>
    refine W_run rfl ?_
    simp only [d_law_read, startS, Stp.av]
    refine W_cons ?_
    simp [atX, eqA_str, tM]
    refine W_cons ?_
    simp [atX, eqA_str]
    refine W_cons ?_
    simp [atX]
    simp only [Stp.rd] at k
    refine W_for_inv (fun d s => ∃ (dp : List (Nat × Tx)) (o5 : Option (AV × Bool)), d = dp.map pairAV ∧ (∀ p ∈ dp, p.1 ≠ c) ∧ s = ⟨[some (.tup [.str [109, 97, 112], .tup (ps.map pairAV)], false), some (.str hd, false), some (.str [c], false), none, none, o5], hp⟩) ⟨[], none, rfl, by simp, rfl⟩ ?_ ?_
    · rintro d x r s K e ⟨dp, o5, rfl, hdp, rfl⟩ hK
      obtain ⟨d3, p, r3, e3, e4, rfl, rfl⟩ := map_split e
      have inj : ∀ a b : Nat × Tx, pairAV a = pairAV b → a = b := by
        rintro ⟨a1, a2⟩ ⟨b1, b2⟩ h
        simpa [pairAV] using h
      have e4 : dp = d3 := (List.map_inj_right inj).mp e4
      subst e4
      have look : ∀ (a b : List (Nat × Tx)), (∀ p ∈ a, p.1 ≠ c) → lookX (a ++ b) c = lookX b c := by
        intro a b h
        induction a with
        | nil => rfl
        | cons q a ih =>
          rw [List.cons_append, lookX, if_neg (h q List.mem_cons_self)]
          exact ih fun p hp => h p (List.mem_cons_of_mem _ hp)
      simp [pairAV]
      refine W_cons ?_
      simp [atX, eqA_str]
      split
      · rename_i hx
        have : lookX ps c = p.2 := by rw [e3, look _ _ hdp, lookX, if_pos hx]
        rw [this] at k
        refine W_cons ?_
        simp [atX]
        exact k
      · rename_i hx
        refine hK _ ⟨dp ++ [p], _, by simp [pairAV], fun q hq => ?_, rfl⟩
        rcases List.mem_append.mp hq with h | h
        · exact hdp q h
        · simp at h; subst h; exact hx
    · rintro s ⟨dp, o5, e, hdp, rfl⟩
      have inj : ∀ a b : Nat × Tx, pairAV a = pairAV b → a = b := by
        rintro ⟨a1, a2⟩ ⟨b1, b2⟩ h
        simpa [pairAV] using h
      have e : ps = dp := (List.map_inj_right inj).mp e
      subst e
      have : lookX ps c = [c] := by
        clear k e hh
        induction ps with
        | nil => rfl
        | cons q a ih =>
          rw [lookX, if_neg (hdp q List.mem_cons_self)]
          exact ih ⟨(List.nodup_cons.mp ok.1).2, fun p hp => ok.2.1 p (List.mem_cons_of_mem _ hp), by have := ok.2.2; simp at this; omega⟩ (fun p hp => hdp p (List.mem_cons_of_mem _ hp))
      rw [this] at k
      simp
      refine W_cons ?_
      simp
      exact k
def lreadOk (C : Oracle) : Prop := ∀ (st : Stp) (hd : Tx) (c : Nat) (hp : List AV) (Q : AV → Bool → List AV → Prop) (E : AV → List AV → Prop), st.ok → st.held hd → Q (prAV (st.rd hd c)) false hp → (C "_law_read" [st.av, .str hd, .str [c]] hp).W Q E
theorem lread_ok {C C' : Oracle} (h : C "_law_read" = run C' d_law_read) : lreadOk C := fun st hd c hp Q E ok hh k => law_read_ok h st hd c hp Q E ok hh k
theorem rdT_pre {st : Stp} {h d r : Tx} : (st.rdT h d).2.length ≤ (st.rdT h (d ++ r)).2.length := by
  rw [Stp.rdT_app, List.length_append]
  omega
theorem atX_map {α : Type} (f : α → AV) {xs : List α} {i : Nat} {x : α} (h : xs[i]? = some x) : atX (xs.map f) (i : Int) = some (f x) := atX_nat _ _ _ (by rw [List.getElem?_map, h]; rfl)
theorem take_snoc {α : Type} {xs : List α} {i : Nat} {x : α} (h : xs[i]? = some x) : xs.take (i + 1) = xs.take i ++ [x] := by rw [List.take_add_one, h]; rfl
theorem OkQ.take {ps : PS} (k : OkQ ps) (i : Nat) : OkQ (ps.take i) := OkQ.pre (r := ps.drop i) (by rw [List.take_append_drop]; exact k)
@[simp] theorem ix_held (ps : PS) (i : Int) (hp : List AV) : ixV (heldAV ps) (.int i) hp = atX (ps.map fun p => AV.str p.2) i := rfl
def ladvOk (C : Oracle) : Prop := ∀ (ps : PS) (sts : List Stp) (t : Tx) (hp : List AV) (Q : AV → Bool → List AV → Prop) (E : AV → List AV → Prop), OkQ ps → ps.map (·.1) = sts → t.length ≤ 9000 → Q (.tup [heldAV (advP ps t).1, .str (advP ps t).2]) false hp → (C "_law_advance" [.lst (sts.map Stp.av), heldAV ps, .str t] hp).W Q E
theorem ladv_ok {C C' : Oracle} (h : C "_law_advance" = run C' d_law_advance) (hr : lreadOk C') : ladvOk C := by
  intro ps sts t hp Q E k hsts ht hq
  rw [h]
  refine W_run rfl ?_
  simp only [d_law_advance, startS]
  refine W_cons ?_
  simp
  refine W_cons ?_
  simp
  have hpl := k.len
  have hsl : sts.length = ps.length := by rw [← hsts]; simp
  refine ⟨by omega, ?_⟩
  refine W_for_rng (fun i s => ∃ o4 o5 o6 o7 o8, s = ⟨[some (.lst (sts.map Stp.av), false), some (heldAV ps, false), some (.str (advP (ps.take i) t).2, false), some (.lst ((advP (ps.take i) t).1.map fun p => .str p.2), true), o4, o5, o6, o7, o8], hp⟩) ⟨none, none, none, none, none, by simp [advP]⟩ ?_ ?_
  · rintro i s K hi ⟨o4, o5, o6, o7, o8, rfl⟩ hK
    obtain ⟨⟨st, hd⟩, hg⟩ : ∃ p, ps[i]? = some p := ⟨_, List.getElem?_eq_getElem (by omega)⟩
    have hmem := List.mem_of_getElem? hg
    have ok := k.ok.ok _ hmem
    have hh := k.ok.held _ hmem
    have a1 := atX_map (fun p : Stp × Tx => AV.str p.2) hg
    have a2 : atX (sts.map Stp.av) (i : Int) = some st.av := atX_map Stp.av (x := st) (by rw [← hsts, List.getElem?_map, hg]; rfl)
    simp only at a1
    have e := take_snoc hg
    have k1 := k.take i
    have k2 := k.take (i + 1)
    have b1 := advP_le k1.ok k1.grow k1.len ht
    have b2 := advP_le k2.ok k2.grow k2.len ht
    have c1 := advP_len1 (ps.take i) t
    have c2 := k1.len
    rw [e, advP_snoc] at b2
    simp only at b2
    have fin : ∀ o4 o7 o8, K ⟨[some (.lst (sts.map Stp.av), false), some (heldAV ps, false), some (.str (st.rdT hd (advP (ps.take i) t).2).2, false), some (.lst ((advP (ps.take i) t).1.map (fun p => .str p.2) ++ [.str (st.rdT hd (advP (ps.take i) t).2).1]), true), o4, some (.str (st.rdT hd (advP (ps.take i) t).2).1, false), some (.str (st.rdT hd (advP (ps.take i) t).2).2, false), o7, o8], hp⟩ := fun o4 o7 o8 => by
      exact hK _ ⟨_, _, _, _, _, by rw [e, advP_snoc, List.map_append]; rfl⟩
    generalize hu : (advP (ps.take i) t).2 = u at b1 b2 fin
    simp
    refine W_cons ?_
    simp [a1]
    refine W_cons ?_
    simp
    refine W_cons ?_
    simp
    refine W_for_map (fun c => .str [c]) u (fun d s => ∃ o7 o8, s = ⟨[some (.lst (sts.map Stp.av), false), some (heldAV ps, false), some (.str u, false), some (.lst ((advP (ps.take i) t).1.map fun p => .str p.2), true), some (.int i, false), some (.str (st.rdT hd d).1, false), some (.str (st.rdT hd d).2, false), o7, o8], hp⟩) ⟨_, _, by simp only [Stp.rdT]; rfl⟩ ?_ ?_
    · rintro d c r s K2 e2 ⟨o7, o8, rfl⟩ hK2
      have b3 : (st.rdT hd (d ++ [c])).2.length ≤ 10000000 := by
        have := rdT_pre (st := st) (h := hd) (d := d ++ [c]) (r := r)
        rw [List.append_assoc, List.singleton_append, ← e2] at this
        omega
      rw [Stp.rdT_app] at b3
      simp [Stp.rdT] at b3
      have fin2 : ∀ o7 o8, K2 ⟨[some (.lst (sts.map Stp.av), false), some (heldAV ps, false), some (.str u, false), some (.lst ((advP (ps.take i) t).1.map fun p => .str p.2), true), some (.int i, false), some (.str (st.rd (st.rdT hd d).1 c).1, false), some (.str ((st.rdT hd d).2 ++ (st.rd (st.rdT hd d).1 c).2), false), o7, o8], hp⟩ := fun o7 o8 => by
        exact hK2 _ ⟨_, _, by rw [Stp.rdT_app]; simp only [Stp.rdT, List.append_nil]; rfl⟩
      simp
      refine W_cons ?_
      simp [a2]
      refine hr st _ c hp _ _ ok (Stp.rdT_held ok d hd hh) ?_
      simp [prAV]
      refine W_cons ?_
      simp [atX]
      refine W_cons ?_
      simp [atX]
      refine ⟨by omega, ?_⟩
      exact fin2 _ _
    · rintro s ⟨o7, o8, rfl⟩
      simp
      refine W_cons ?_
      simp
      refine ⟨by omega, ?_⟩
      refine W_cons ?_
      simp
      exact fin _ _ _
  · rintro s ⟨o4, o5, o6, o7, o8, rfl⟩
    simp
    refine W_cons ?_
    simp
    have e : List.take sts.length ps = ps := List.take_of_length_le (by omega)
    rw [e]
    exact hq
def lfinOk (C : Oracle) : Prop := ∀ (ps : PS) (sts : List Stp) (hp : List AV) (Q : AV → Bool → List AV → Prop) (E : AV → List AV → Prop), OkQ ps → ps.map (·.1) = sts → Q (.str (finP ps [])) false hp → (C "_law_finish" [.lst (sts.map Stp.av), heldAV ps] hp).W Q E
theorem lfin_ok {C C' : Oracle} (h : C "_law_finish" = run C' d_law_finish) (hr : lreadOk C') : lfinOk C := by
  intro ps sts hp Q E k hsts hq
  rw [h]
  refine W_run rfl ?_
  simp only [d_law_finish, startS]
  refine W_cons ?_
  simp
  refine W_cons ?_
  simp
  have hpl := k.len
  have hsl : sts.length = ps.length := by rw [← hsts]; simp
  refine ⟨by omega, ?_⟩
  refine W_for_rng (fun i s => ∃ o4 o5 o6 o7 o8, s = ⟨[some (.lst (sts.map Stp.av), false), some (heldAV ps, false), some (.str (finP (ps.take i) []), false), o4, o5, o6, o7, o8], hp⟩) ⟨none, none, none, none, none, by simp [finP]⟩ ?_ ?_
  · rintro i s K hi ⟨o4, o5, o6, o7, o8, rfl⟩ hK
    obtain ⟨⟨st, hd⟩, hg⟩ : ∃ p, ps[i]? = some p := ⟨_, List.getElem?_eq_getElem (by omega)⟩
    have hmem := List.mem_of_getElem? hg
    have ok := k.ok.ok _ hmem
    have hh := k.ok.held _ hmem
    have a1 := atX_map (fun p : Stp × Tx => AV.str p.2) hg
    have a2 : atX (sts.map Stp.av) (i : Int) = some st.av := atX_map Stp.av (x := st) (by rw [← hsts, List.getElem?_map, hg]; rfl)
    simp only at a1
    have e := take_snoc hg
    have k1 := k.take i
    have k2 := k.take (i + 1)
    have b1 : (finP (ps.take i) []).length ≤ 10000000 := by rw [fin_run _ [] k1.ok]; exact runP_le k1.ok k1.grow k1.len (by simp)
    have b2 : (finP (ps.take (i + 1)) []).length ≤ 10000000 := by rw [fin_run _ [] k2.ok]; exact runP_le k2.ok k2.grow k2.len (by simp)
    rw [e, finP_snoc, List.length_append] at b2
    have fin : ∀ o4 o5 o6 o7 o8, K ⟨[some (.lst (sts.map Stp.av), false), some (heldAV ps, false), some (.str ((st.rdT hd (finP (ps.take i) [])).2 ++ (st.rdT hd (finP (ps.take i) [])).1), false), o4, o5, o6, o7, o8], hp⟩ := fun o4 o5 o6 o7 o8 => by
      exact hK _ ⟨_, _, _, _, _, by rw [e, finP_snoc]⟩
    generalize hu : finP (ps.take i) [] = u at b1 b2 fin
    simp
    refine W_cons ?_
    simp [a1]
    refine W_cons ?_
    simp
    refine W_cons ?_
    simp
    refine W_for_map (fun c => .str [c]) u (fun d s => ∃ o7 o8, s = ⟨[some (.lst (sts.map Stp.av), false), some (heldAV ps, false), some (.str u, false), some (.int i, false), some (.str (st.rdT hd d).1, false), some (.str (st.rdT hd d).2, false), o7, o8], hp⟩) ⟨_, _, by simp only [Stp.rdT]; rfl⟩ ?_ ?_
    · rintro d c r s K2 e2 ⟨o7, o8, rfl⟩ hK2
      have b3 : (st.rdT hd (d ++ [c])).2.length ≤ 10000000 := by
        have := rdT_pre (st := st) (h := hd) (d := d ++ [c]) (r := r)
        rw [List.append_assoc, List.singleton_append, ← e2] at this
        omega
      rw [Stp.rdT_app] at b3
      simp [Stp.rdT] at b3
      have fin2 : ∀ o7 o8, K2 ⟨[some (.lst (sts.map Stp.av), false), some (heldAV ps, false), some (.str u, false), some (.int i, false), some (.str (st.rd (st.rdT hd d).1 c).1, false), some (.str ((st.rdT hd d).2 ++ (st.rd (st.rdT hd d).1 c).2), false), o7, o8], hp⟩ := fun o7 o8 => by
        exact hK2 _ ⟨_, _, by rw [Stp.rdT_app]; simp only [Stp.rdT, List.append_nil]; rfl⟩
      simp
      refine W_cons ?_
      simp [a2]
      refine hr st _ c hp _ _ ok (Stp.rdT_held ok d hd hh) ?_
      simp [prAV]
      refine W_cons ?_
      simp [atX]
      refine W_cons ?_
      simp [atX]
      refine ⟨by omega, ?_⟩
      exact fin2 _ _
    · rintro s ⟨o7, o8, rfl⟩
      simp
      refine W_cons ?_
      simp
      refine ⟨by omega, ?_⟩
      exact fin _ _ _ _ _
  · rintro s ⟨o4, o5, o6, o7, o8, rfl⟩
    simp
    refine W_cons ?_
    simp
    have e : List.take sts.length ps = ps := List.take_of_length_le (by omega)
    rw [e]
    exact hq
/-- a tuple of so many texts -/
def heldOkQ (C : Oracle) : Prop := ∀ (ps : PS) (hp : List AV) (Q : AV → Bool → List AV → Prop) (E : AV → List AV → Prop), Q (.bl true) false hp → (C "_law_held" [heldAV ps, .int ps.length] hp).W Q E
theorem held_ok {C C' : Oracle} (h : C "_law_held" = run C' d_law_held) : heldOkQ C := by
  intro ps hp Q E hq
  rw [h]
  refine W_run rfl ?_
  simp only [d_law_held, startS]
  refine W_cons ?_
  simp [heldAV, eqA_int]
  refine W_cons ?_
  simp
  refine W_for_map (fun p : Stp × Tx => AV.str p.2) ps (fun d s => ∃ o2, s = ⟨[some (heldAV ps, false), some (.int ps.length, false), o2], hp⟩) ⟨none, rfl⟩ ?_ ?_
  · rintro d p r s K e ⟨o2, rfl⟩ hK
    simp
    refine W_cons ?_
    simp
    exact hK _ ⟨_, rfl⟩
  · rintro s ⟨o2, rfl⟩
    simp
    refine W_cons ?_
    simp
    exact hq
theorem plain_strs' (n : Nat) (ts : List Tx) : plainLN n (ts.map .str) = true := plain_strsN n ts
theorem plain_heldN (n : Nat) (ps : PS) : plainLN n (ps.map fun p => AV.str p.2) = true := by
  have := plain_strsN n (ps.map (·.2))
  rwa [List.map_map] at this
theorem plain_held (ps : PS) : plain (heldAV ps) = true := plain_heldN 39 ps
theorem plain_adv (ps : PS) (t : Tx) : plain (.tup [heldAV ps, .str t]) = true := by
  have := plain_heldN 38 ps
  simp [plain, plainN, plainLN, heldAV, this]
theorem mul_held (n : Nat) (h : n ≤ 1000) : bop .mul (.tup [.str []]) (.int n) = some (.tup (List.replicate n (.str [])), false) := by
  rw [bop_mulT, if_pos]
  · have : (List.replicate (Int.toNat n) [AV.str []]).flatten = List.replicate n (AV.str []) := by simp
    rw [this]
  · refine ⟨by simp, by omega, by omega, ?_⟩
    show 1 * (n : Int).toNat ≤ 16777216
    omega
theorem ini_rep (sts : List Stp) : heldAV (iniP sts) = .tup (List.replicate sts.length (AV.str [])) := by
  unfold heldAV iniP
  congr 1
  induction sts with
  | nil => rfl
  | cons a r ih => simp [List.replicate_succ, ih]
theorem ini_eq (sts : List Stp) : eqA (heldAV (iniP sts)) (.tup (List.replicate sts.length (AV.str []))) = some true := by
  have := eqA_self (plain_held (iniP sts))
  rwa [ini_rep] at this ⊢
end Q
end

section
set_option linter.all false
set_option maxRecDepth 100000
set_option maxHeartbeats 1000000
/-! Lists5: the contracts under one form; alphabets, rows. -/
namespace Q
@[simp] theorem dunOk_call (v : AV) : dunOk "__call__" v = true := by simp [dunOk]
def startOk (C : Oracle) : Prop := ∀ (sts : List Stp) (hp : List AV) (Q : AV → Bool → List AV → Prop) (E : AV → List AV → Prop), sts.length ≤ 24 → Q (heldAV (iniP sts)) false hp → (C "start" [stepsAV sts] hp).W Q E
theorem startW {C C' C1 : Oracle} (h : C "start" = run C' dstart) (h2 : C' "Steps.__len__" = run C1 dSteps_o___len__) : startOk C := fun sts hp Q E => start_ok h (fun sts hp Q E => len_ok h2 sts hp Q E) sts hp Q E
theorem lenW {C C' : Oracle} (h : C "Steps.__len__" = run C' dSteps_o___len__) : lenOk C := fun sts hp Q E => len_ok h sts hp Q E
def mkOk (C : Oracle) : Prop := ∀ (sts : List Stp) (v : AV) (hp : List AV) (Q : AV → Bool → List AV → Prop) (E : AV → List AV → Prop), OkL sts → (v = .lst (sts.map Stp.av) ∨ v = .tup (sts.map Stp.av)) → Q (stepsAV sts) false (hp ++ [.non]) → (C "Steps" [v] hp).W Q E
theorem mkW {C C' C1 C2 C3 : Oracle} (h : C "Steps" = runI "Steps" C' dSteps) (h1 : C' "is_step" = run C1 dis_step) (h2 : C1 "is_map" = run C2 dis_map) (h3 : C' "step_growth" = run C3 dstep_growth) : mkOk C := fun sts v hp Q E =>
  steps_ok h (fun st hp Q E => is_good h1 h2 (st := st) (hp := hp) (Q := Q) (E := E)) (fun st hp Q E => growth_ok h3 st hp Q E) sts v hp Q E
def partsOk (C : Oracle) : Prop := ∀ (cs : List Nat) (sts : List Stp) (hp : List AV) (Q : AV → Bool → List AV → Prop) (E : AV → List AV → Prop), cs.length ≤ 1000 → sts.length ≤ 1000 → Q (.lst ((partsL cs sts).map .str)) true hp → (C "_law_parts" [.lst (chrs cs), .lst (sts.map Stp.av)] hp).W Q E
theorem partsW {C C' : Oracle} (h : C "_law_parts" = run C' d_law_parts) : partsOk C := fun cs sts hp Q E => lpartsOk h cs sts hp Q E
def holdsOk (C : Oracle) : Prop := ∀ (st : Stp) (hp : List AV) (Q : AV → Bool → List AV → Prop) (E : AV → List AV → Prop), st.ok → Q (.lst (st.holds.map .str)) true hp → (C "_law_holds" [st.av] hp).W Q E
theorem holdsW {C C' : Oracle} (h : C "_law_holds" = run C' d_law_holds) : holdsOk C := fun st hp Q E => law_holds_ok h st hp Q E
def readsOk (C : Oracle) : Prop := ∀ (sts : List Stp) (hp : List AV) (Q : AV → Bool → List AV → Prop) (E : AV → List AV → Prop), (∀ st ∈ sts, st.ok) → sts.length ≤ 1000 → Q (.str (readsL sts)) false hp → (C "_law_reads" [.lst (sts.map Stp.av)] hp).W Q E
theorem readsW {C C' : Oracle} (h : C "_law_reads" = run C' d_law_reads) : readsOk C := fun sts hp Q E => reads_ok h sts hp Q E
def ascOk (C : Oracle) : Prop := ∀ (t : Tx) (hp : List AV) (Q : AV → Bool → List AV → Prop) (E : AV → List AV → Prop), AscC t → Q (.str (sgn t)) false hp → (C "_law_ascending" [.str t] hp).W Q E
theorem ascW {C C' : Oracle} (h : C "_law_ascending" = run C' d_law_ascending) (hc : charOk C') : ascOk C := fun t hp Q E => ascending_ok h hc t hp Q E
def intOk (C : Oracle) : Prop := ∀ (i : Int) (hp : List AV) (Q : AV → Bool → List AV → Prop) (E : AV → List AV → Prop), Q (.bl true) false hp → (C "_law_integer" [.int i] hp).W Q E
theorem intW {C C' : Oracle} (h : C "_law_integer" = run C' d_law_integer) : intOk C := fun i hp Q E => integer_ok h i hp Q E
def lgrowOk (C : Oracle) : Prop := ∀ (st : Stp) (hp : List AV) (Q : AV → Bool → List AV → Prop) (E : AV → List AV → Prop), st.ok → Q (.int st.growth) false hp → (C "_law_growth" [st.av] hp).W Q E
theorem lgrowW {C C' : Oracle} (h : C "_law_growth" = run C' d_law_growth) : lgrowOk C := fun st hp Q E => law_growth_ok h st hp Q E
def totalOk (C : Oracle) : Prop := ∀ (sts : List Stp) (hp : List AV) (Q : AV → Bool → List AV → Prop) (E : AV → List AV → Prop), Q (.int (growL sts)) false hp → (C "Steps.growth" [stepsAV sts] hp).W Q E
theorem totalW {C C' : Oracle} (h : C "Steps.growth" = run C' dSteps_o_growth) : totalOk C := fun sts hp Q E => total_ok h sts hp Q E
def alphaOk (C : Oracle) : Prop := ∀ (st : Stp) (hp : List AV) (Q : AV → Bool → List AV → Prop) (E : AV → List AV → Prop), st.ok → (∀ c ∈ st.reads, c < 128) → (sgn st.reads).length < 64 → Q (.str (sgn st.reads)) false hp → (C "step_alphabet" [st.av] hp).W Q E
theorem alphaW {C C' : Oracle} (h : C "step_alphabet" = run C' dstep_alphabet) : alphaOk C := fun st hp Q E => alphabet_ok h st hp Q E
/-! ### the alphabet of a list -/
theorem readsL_mem (sts : List Stp) (c : Nat) : c ∈ readsL sts ↔ ∃ st ∈ sts, c ∈ st.reads := by
  simp only [readsL, List.mem_flatten, List.mem_map]
  constructor
  · rintro ⟨l, ⟨st, hs, rfl⟩, hc⟩
    exact ⟨st, hs, hc⟩
  · rintro ⟨st, hs, hc⟩
    exact ⟨_, ⟨st, hs, rfl⟩, hc⟩
theorem sgn_ext {a b : Tx} (h : ∀ c, c ∈ a ↔ c ∈ b) : sgn a = sgn b := by
  unfold sgn
  congr 1
  funext c
  rw [Bool.eq_iff_iff]
  simp [h c]
theorem sgn_sub {x : Tx} {cs : List Nat} (h : ∀ c ∈ x, c ∈ cs) : (sgn x).length ≤ cs.length :=
  nodup_le (List.nodup_iff_pairwise_ne.mpr ((sgn_rise x).imp fun h => Nat.ne_of_lt h)) fun y hy => by
    unfold sgn at hy
    simp only [List.mem_filter, List.contains_eq_mem, decide_eq_true_eq] at hy
    exact h y hy.2
def alphLOk (C : Oracle) : Prop := ∀ (sts : List Stp) (cs : List Nat) (hp : List AV) (Q : AV → Bool → List AV → Prop) (E : AV → List AV → Prop), OkL sts → (∀ st ∈ sts, st.of cs) → cs.length ≤ 50 → (∀ c ∈ cs, c < 128) → Q (.str (sgn (readsL sts))) false hp → (C "Steps.alphabet" [stepsAV sts] hp).W Q E
theorem alphL_ok {C C' : Oracle} (h : C "Steps.alphabet" = run C' dSteps_o_alphabet) (hA : alphaOk C') : alphLOk C := by
  intro sts cs hp Q E k hof hcl hcs hq
  have hr : ∀ st ∈ sts, ∀ c ∈ st.reads, c ∈ cs := fun st hs => Stp.reads_of (hof st hs)
  have hl := k.len
  rw [h]
  refine W_run rfl ?_
  simp only [dSteps_o_alphabet, startS]
  refine W_cons ?_
  simp
  refine W_lc_fun Stp.av (fun st => .str (sgn st.reads)) sts (by simp; omega) ?_ ?_
  · intro st hs K hK
    simp
    refine hA st hp _ _ (k.ok st hs) (fun c hc => hcs c (hr st hs c hc)) ?_ ?_
    · have := sgn_sub (hr st hs)
      omega
    · simp
      exact hK
  · have e0 : sts.map (fun st => AV.str (sgn st.reads)) = (sts.map fun st => sgn st.reads).map AV.str := by rw [List.map_map]; rfl
    rw [e0]
    generalize hu : (sts.map fun st => sgn st.reads) = us
    have hfl : us.flatten.length ≤ us.length * 50 := flat_le fun t ht => by
      rw [← hu] at ht
      obtain ⟨st, hs, rfl⟩ := List.mem_map.mp ht
      have := sgn_sub (hr st hs)
      omega
    have hul : us.length ≤ 24 := by rw [← hu]; simpa using hl
    have hum : ∀ c, c ∈ us.flatten ↔ c ∈ readsL sts := by
      intro c
      rw [readsL_mem, ← hu]
      simp only [List.mem_flatten, List.mem_map]
      constructor
      · rintro ⟨t, ⟨st, hs, rfl⟩, hc⟩
        exact ⟨st, hs, (mem_sgn (fun c hc => hcs c (hr st hs c hc)) c).1 hc⟩
      · rintro ⟨st, hs, hc⟩
        exact ⟨_, ⟨st, hs, rfl⟩, (mem_sgn (fun c hc => hcs c (hr st hs c hc)) c).2 hc⟩
    have hin : ∀ c ∈ us.flatten, c ∈ cs := fun c hc => by
      obtain ⟨st, hs, h2⟩ := (readsL_mem sts c).1 ((hum c).1 hc)
      exact hr st hs c h2
    have hsum := sum_flat us
    simp [strsOf_map, join_nil]
    refine ⟨by have e : (us.map fun x => List.length x).sum = us.flatten.length := hsum; omega, ?_⟩
    refine W_cons ?_
    simp
    have hsm : ∀ c, ∀ x ∈ us, c ∈ x → c < 128 := fun c x hx hc => hcs c (hin c (List.mem_flatten.mpr ⟨x, hx, hc⟩))
    have e : (us.map List.length).sum = us.flatten.length := hsum
    refine ⟨⟨hsm, by omega, by have := sgn_sub hin; omega⟩, ?_⟩
    have hj := joinO_chrs (t := sgn us.flatten) (by have := sgn_sub hin; omega)
    unfold chrs at hj
    rw [sgn_ext hum] at hj ⊢
    simp [hj]
    exact hq
end Q
end

section
set_option linter.all false
set_option maxRecDepth 100000
set_option maxHeartbeats 1000000
/-! Lists6: characters that no step reads. -/
namespace Q
theorem look_none : ∀ {ps : List (Nat × Tx)} {c : Nat}, c ∉ ps.map (·.1) → lookX ps c = [c]
  | [], c, _ => rfl
  | p :: r, c, h => by
    rw [lookX, if_neg (fun e => h (by rw [← e]; simp))]
    exact look_none fun z => h (by simp at z ⊢; exact .inr z)
theorem Stp.rd_other {st : Stp} {h : Tx} {c : Nat} (hh : st.held h) (hc : c ∉ st.reads) : st.rd h c = ([], h ++ [c]) := by
  cases st with
  | repl old new =>
    show rdOld old new (h ++ [c]) = _
    unfold rdOld
    have hc : c ∉ old := hc
    rw [if_neg (fun e => hc (by rw [← e]; simp))]
    have : (List.range (h ++ [c]).length).find? (rdP old (h ++ [c])) = none := by
      rw [List.find?_range_eq_none]
      intro j hj
      unfold rdP
      have : ¬ ((h ++ [c]).drop j) <+: old := fun z => hc (z.subset (by
        have hj' : j ≤ h.length := by simp at hj; omega
        rw [List.drop_append_of_le_length hj']
        simp))
      have e : (List.drop j (h ++ [c])).isPrefixOf old = false := by
        rw [Bool.eq_false_iff]
        exact fun z => this (List.isPrefixOf_iff_prefix.mp z)
      simp [e]
    rw [this]
  | squ a =>
    show (if c = a then (([a], []) : Tx × Tx) else ([], h ++ [c])) = _
    rw [if_neg (fun e => hc (by rw [e]; simp [Stp.reads]))]
  | map ps =>
    have hh : h = [] := hh
    subst hh
    show (([], lookX ps c) : Tx × Tx) = _
    rw [look_none hc]
    rfl
theorem Stp.rdT_other {st : Stp} {h x : Tx} {c : Nat} (ok : st.ok) (hh : st.held h) (hc : c ∉ st.reads) : st.rdT h (x ++ [c]) = ([], (st.rdT h x).2 ++ (st.rdT h x).1 ++ [c]) := by
  rw [Stp.rdT_app]
  simp only [Stp.rdT]
  rw [Stp.rd_other (Stp.rdT_held ok x h hh) hc]
  simp
theorem Stp.run_other {st : Stp} {a b : Tx} {c : Nat} (ok : st.ok) (hc : c ∉ st.reads) : st.run (a ++ c :: b) = st.run a ++ c :: st.run b := by
  have h0 := Stp.held_nil ok
  have h1 := Stp.rdT_run ok (a ++ c :: b) [] h0
  have h2 := Stp.rdT_run ok a [] h0
  have h3 := Stp.rdT_run ok b [] h0
  rw [show a ++ c :: b = (a ++ [c]) ++ b by simp, Stp.rdT_app, Stp.rdT_other ok h0 hc] at h1
  simp only [List.nil_append] at h1 h2 h3
  rw [show a ++ c :: b = (a ++ [c]) ++ b by simp, ← h1, ← h2, ← h3]
  simp
theorem runL_other : ∀ {sts : List Stp} {a b : Tx} {c : Nat}, (∀ st ∈ sts, st.ok) → (∀ st ∈ sts, c ∉ st.reads) → runL sts (a ++ c :: b) = runL sts a ++ c :: runL sts b
  | [], a, b, c, _, _ => rfl
  | st :: r, a, b, c, ok, hc => by
    show runL r (st.run (a ++ c :: b)) = runL r (st.run a) ++ c :: runL r (st.run b)
    rw [Stp.run_other (ok st (by simp)) (hc st (by simp)), runL_other (fun x hx => ok x (List.mem_cons_of_mem _ hx)) fun x hx => hc x (List.mem_cons_of_mem _ hx)]
/-- an other character ends all -/
theorem advP_other : ∀ {ps : PS} {x : Tx} {c : Nat}, OkP ps → (∀ p ∈ ps, c ∉ p.1.reads) → advP ps (x ++ [c]) = (iniP (ps.map (·.1)), finP ps x ++ [c])
  | [], x, c, _, _ => rfl
  | (st, h) :: r, x, c, k, hc => by
    obtain ⟨a, b, k'⟩ := k.cons
    have e := Stp.rdT_other (x := x) a b (hc (st, h) (by simp))
    simp only [advP, e, finP]
    rw [advP_other k' fun p hp => hc p (List.mem_cons_of_mem _ hp)]
    rfl
theorem not_reads {sts : List Stp} {c : Nat} (h : ∀ st ∈ sts, c ∉ st.reads) : c ∉ readsL sts := fun z => by
  obtain ⟨st, hs, hc⟩ := (readsL_mem sts c).1 z
  exact h st hs hc
end Q
end

section
set_option linter.all false
set_option maxRecDepth 100000
set_option maxHeartbeats 1000000
/-! Rows: two lists side by side. -/
namespace Q
def d_law_next : IFn := ⟨4, 8, [.asg (.nm 4) (.call "_law_advance" [.v 0, .ix (.v 2) (.c (.int 0)), .v 3]), .asg (.nm 5) (.call "_law_advance" [.v 1, .ix (.v 2) (.c (.int 1)), .v 3]), .asg (.nm 6) (.bin .add (.ix (.v 2) (.c (.int 2))) (.ix (.v 4) (.c (.int 1)))), .asg (.nm 7) (.bin .add (.ix (.v 2) (.c (.int 3))) (.ix (.v 5) (.c (.int 1)))), .ite (.meth (.v 6) .startswith [.v 7]) [.ret (.tup [.ix (.v 4) (.c (.int 0)), .ix (.v 5) (.c (.int 0)), .sl (.v 6) (.bcall .len [.v 7]) (.c .non), .c (.str [])])] [], .ite (.meth (.v 7) .startswith [.v 6]) [.ret (.tup [.ix (.v 4) (.c (.int 0)), .ix (.v 5) (.c (.int 0)), .c (.str []), .sl (.v 7) (.bcall .len [.v 6]) (.c .non)])] [], .ret (.c .non)]⟩
def d_law_other : IFn := ⟨3, 6, [.asg (.nm 3) (.call "_law_draw" [.v 0, .c (.int 8)]), .asg (.nm 4) (.call "_law_draw" [.v 0, .bin .add (.bcall .len [.v 2]) (.c (.int 1))]), .ite (.cmp .eq (.v 3) (.c (.int 0))) [.ret (.bin .add (.sl (.v 2) (.c .non) (.v 4)) (.sl (.v 2) (.bin .add (.v 4) (.c (.int 1))) (.c .non)))] [], .ite (.cmp .eq (.v 3) (.c (.int 1))) [.ret (.bin .add (.bin .add (.sl (.v 2) (.c .non) (.v 4)) (.rev (.sl (.v 2) (.v 4) (.bin .add (.v 4) (.c (.int 2)))))) (.sl (.v 2) (.bin .add (.v 4) (.c (.int 2))) (.c .non)))] [], .ite (.cmp .eq (.v 3) (.c (.int 2))) [.asg (.nm 5) (.call "_law_word" [.v 0, .v 1, .bin .add (.c (.int 1)) (.call "_law_draw" [.v 0, .c (.int 3)])]), .ret (.bin .add (.bin .add (.sl (.v 2) (.c .non) (.v 4)) (.lst [.tup [.c (.str [114, 101, 112, 108, 97, 99, 101]), .v 5, .v 5]])) (.sl (.v 2) (.v 4) (.c .non)))] [], .ite (.cmp .eq (.v 3) (.c (.int 3))) [.ret (.bin .add (.bin .add (.sl (.v 2) (.c .non) (.v 4)) (.lst [.call "_law_step" [.v 0, .v 1]])) (.sl (.v 2) (.v 4) (.c .non)))] [], .ite (.cmp .eq (.v 3) (.c (.int 4))) [.ret (.bin .add (.v 2) (.v 2))] [], .ite (.cmp .eq (.v 3) (.c (.int 5))) [.ret (.bin .add (.bin .add (.sl (.v 2) (.c .non) (.v 4)) (.bin .mul (.sl (.v 2) (.v 4) (.bin .add (.v 4) (.c (.int 1)))) (.c (.int 2)))) (.sl (.v 2) (.bin .add (.v 4) (.c (.int 1))) (.c .non)))] [], .ite (.cmp .eq (.v 3) (.c (.int 6))) [.ret (.bin .add (.bin .add (.sl (.v 2) (.c .non) (.v 4)) (.lst [.call "_law_step" [.v 0, .v 1]])) (.sl (.v 2) (.bin .add (.v 4) (.c (.int 1))) (.c .non)))] [], .ret (.call "_law_list" [.v 0, .v 1, .c (.int 4)])]⟩
def d_law_row : IFn := ⟨3, 3, [.ite (.or_ [.not_ (.bcall .isinst [.v 0, .c (.ty "tuple")]), .cmp .ne (.bcall .len [.v 0]) (.c (.int 4))]) [.ret (.c (.bl false))] [], .ite (.or_ [.not_ (.bcall .isinst [.ix (.v 0) (.c (.int 2)), .c (.ty "str")]), .not_ (.bcall .isinst [.ix (.v 0) (.c (.int 3)), .c (.ty "str")])]) [.ret (.c (.bl false))] [], .ret (.and_ [.call "_law_held" [.ix (.v 0) (.c (.int 0)), .v 1], .call "_law_held" [.ix (.v 0) (.c (.int 1)), .v 2]])]⟩
def dnext_row : IFn := ⟨4, 10, [.asg (.tp [6, 7]) (.call "advance" [.v 0, .ix (.v 2) (.c (.int 0)), .v 3]), .asg (.tp [8, 9]) (.call "advance" [.v 1, .ix (.v 2) (.c (.int 1)), .v 3]), .asg (.nm 4) (.bin .add (.ix (.v 2) (.c (.int 2))) (.v 7)), .asg (.nm 5) (.bin .add (.ix (.v 2) (.c (.int 3))) (.v 9)), .ite (.meth (.v 4) .startswith [.v 5]) [.ret (.tup [.v 6, .v 8, .sl (.v 4) (.bcall .len [.v 5]) (.c .non), .c (.str [])])] [], .ite (.meth (.v 5) .startswith [.v 4]) [.ret (.tup [.v 6, .v 8, .c (.str []), .sl (.v 5) (.bcall .len [.v 4]) (.c .non)])] [], .ret (.c .non)]⟩
def drow_agrees : IFn := ⟨3, 3, [.ret (.cmp .eq (.bin .add (.ix (.v 2) (.c (.int 2))) (.call "finish" [.v 0, .ix (.v 2) (.c (.int 0))])) (.bin .add (.ix (.v 2) (.c (.int 3))) (.call "finish" [.v 1, .ix (.v 2) (.c (.int 1))])))]⟩
def dshared_letters : IFn := ⟨2, 2, [.ret (.meth (.c (.str [])) .join [.sset (.bin .add (.attr (.v 0) "alphabet" ["Steps"]) (.attr (.v 1) "alphabet" ["Steps"]))])]⟩
def dstart_row : IFn := ⟨2, 2, [.ret (.tup [.call "start" [.v 0], .call "start" [.v 1], .c (.str []), .c (.str [])])]⟩
theorem advP_len {ps : PS} {t : Tx} (k : OkP ps) : (advP ps t).2.length ≤ growL (ps.map (·.1)) * (t.length + 20 * ps.length) := by
  have h1 := congrArg List.length (adv_fin ps t [] k)
  rw [List.append_nil, List.length_append] at h1
  have := runP_len ps t k
  omega
theorem finP_len {ps : PS} (k : OkP ps) : (finP ps []).length ≤ growL (ps.map (·.1)) * (20 * ps.length) := by
  rw [fin_run ps [] k]
  have := runP_len ps [] k
  simpa using this
/-! ### rows -/
structure Row where
  p : PS
  q : PS
  a : Tx
  b : Tx
def Row.av (r : Row) : AV := .tup [heldAV r.p, heldAV r.q, .str r.a, .str r.b]
def Row.nx (r : Row) (c : Nat) : Option Row :=
  if (r.b ++ (advP r.q [c]).2) <+: (r.a ++ (advP r.p [c]).2) then some ⟨(advP r.p [c]).1, (advP r.q [c]).1, (r.a ++ (advP r.p [c]).2).drop (r.b ++ (advP r.q [c]).2).length, []⟩
  else if (r.a ++ (advP r.p [c]).2) <+: (r.b ++ (advP r.q [c]).2) then some ⟨(advP r.p [c]).1, (advP r.q [c]).1, [], (r.b ++ (advP r.q [c]).2).drop (r.a ++ (advP r.p [c]).2).length⟩
  else none
def Row.ag (r : Row) : Bool := decide (r.a ++ finP r.p [] = r.b ++ finP r.q [])
def Row.ini (xs ys : List Stp) : Row := ⟨iniP xs, iniP ys, [], []⟩
def optRow : Option Row → AV
  | some r => r.av
  | none => .non
@[simp] theorem optRow_some (r : Row) : optRow (some r) = r.av := rfl
@[simp] theorem optRow_none : optRow none = .non := rfl
/-- a row of these lists -/
structure Row.Ok (xs ys : List Stp) (r : Row) : Prop where
  p : OkQ r.p
  q : OkQ r.q
  pf : r.p.map (·.1) = xs
  qf : r.q.map (·.1) = ys
theorem Row.ini_ok {xs ys : List Stp} (h1 : OkL xs) (h2 : OkL ys) : (Row.ini xs ys).Ok xs ys := ⟨h1.ini, h2.ini, iniP_fst xs, iniP_fst ys⟩
theorem Row.nx_ok {xs ys : List Stp} {r r' : Row} {c : Nat} (k : r.Ok xs ys) (e : r.nx c = some r') : r'.Ok xs ys := by
  have h1 : (advP r.p [c]).1.map (·.1) = xs := by rw [advP_fst]; exact k.pf
  have h2 : (advP r.q [c]).1.map (·.1) = ys := by rw [advP_fst]; exact k.qf
  unfold Row.nx at e
  split at e
  · cases e
    exact ⟨k.p.adv [c], k.q.adv [c], h1, h2⟩
  · split at e
    · cases e
      exact ⟨k.p.adv [c], k.q.adv [c], h1, h2⟩
    · cases e
/-- both outputs, up to what both have in common -/
structure Row.At (xs ys : List Stp) (t : Tx) (r : Row) : Prop where
  p : r.p = (advP (iniP xs) t).1
  q : r.q = (advP (iniP ys) t).1
  w : ∃ w, (advP (iniP xs) t).2 = w ++ r.a ∧ (advP (iniP ys) t).2 = w ++ r.b
theorem Row.At.ok {xs ys : List Stp} {t : Tx} {r : Row} (h1 : OkL xs) (h2 : OkL ys) (k : r.At xs ys t) : r.Ok xs ys := ⟨by rw [k.p]; exact h1.ini.adv t, by rw [k.q]; exact h2.ini.adv t, by rw [k.p, advP_fst, iniP_fst], by rw [k.q, advP_fst, iniP_fst]⟩
theorem Row.At.ini (xs ys : List Stp) : (Row.ini xs ys).At xs ys [] := ⟨by simp [Row.ini, advP_nil], by simp [Row.ini, advP_nil], [], by simp [Row.ini, advP_nil], by simp [Row.ini, advP_nil]⟩
theorem Row.At.nx {xs ys : List Stp} {t : Tx} {r r' : Row} {c : Nat} (k : r.At xs ys t) (e : r.nx c = some r') : r'.At xs ys (t ++ [c]) := by
  obtain ⟨w, w1, w2⟩ := k.w
  have a1 := advP_app (iniP xs) t [c]
  have a2 := advP_app (iniP ys) t [c]
  rw [← k.p] at a1
  rw [← k.q] at a2
  unfold Row.nx at e
  split at e
  · rename_i h
    obtain ⟨z, hz⟩ := h
    cases e
    refine ⟨by rw [a1], by rw [a2], w ++ (r.b ++ (advP r.q [c]).2), ?_, ?_⟩
    · rw [a1, w1]
      show w ++ r.a ++ (advP r.p [c]).2 = w ++ (r.b ++ (advP r.q [c]).2) ++ (r.a ++ (advP r.p [c]).2).drop (r.b ++ (advP r.q [c]).2).length
      rw [← hz, List.drop_left, List.append_assoc, List.append_assoc, hz]
    · rw [a2, w2]
      simp
  · split at e
    · rename_i h
      obtain ⟨z, hz⟩ := h
      cases e
      refine ⟨by rw [a1], by rw [a2], w ++ (r.a ++ (advP r.p [c]).2), ?_, ?_⟩
      · rw [a1, w1]
        simp
      · rw [a2, w2]
        show w ++ r.b ++ (advP r.q [c]).2 = w ++ (r.a ++ (advP r.p [c]).2) ++ (r.b ++ (advP r.q [c]).2).drop (r.a ++ (advP r.p [c]).2).length
        rw [← hz, List.drop_left, List.append_assoc, List.append_assoc, hz]
    · cases e
theorem Row.At.run1 {xs ys : List Stp} {t : Tx} {r : Row} (h : OkL xs) (k : r.At xs ys t) : ∃ w, runL xs t = w ++ (r.a ++ finP r.p []) ∧ (advP (iniP ys) t).2 = w ++ r.b := by
  obtain ⟨w, w1, w2⟩ := k.w
  refine ⟨w, ?_, w2⟩
  rw [← whole_run xs t h.ok, w1, k.p, List.append_assoc]
/-- THE ROW TELLS -/
theorem Row.At.agrees {xs ys : List Stp} {t : Tx} {r : Row} (h1 : OkL xs) (h2 : OkL ys) (k : r.At xs ys t) : r.ag = decide (runL xs t = runL ys t) := by
  obtain ⟨w, w1, w2⟩ := k.w
  unfold Row.ag
  rw [← whole_run xs t h1.ok, ← whole_run ys t h2.ok, w1, w2, ← k.p, ← k.q, List.append_assoc, List.append_assoc]
  congr 1
  rw [List.append_cancel_left_eq]
/-- what leaves a list begins with what it has emitted -/
theorem run_begins {xs : List Stp} (h : ∀ st ∈ xs, st.ok) (t x : Tx) : (advP (iniP xs) t).2 <+: runL xs (t ++ x) := by
  rw [← whole_run xs (t ++ x) h, advP_app, List.append_assoc]
  exact ⟨_, rfl⟩
/-- no row: no continuation is the same -/
theorem Row.At.parts {xs ys : List Stp} {t : Tx} {r : Row} {c : Nat} (h1 : OkL xs) (h2 : OkL ys) (k : r.At xs ys t) (e : r.nx c = none) (x : Tx) : runL xs (t ++ c :: x) ≠ runL ys (t ++ c :: x) := by
  obtain ⟨w, w1, w2⟩ := k.w
  intro z
  have b1 := run_begins h1.ok (t ++ [c]) x
  have b2 := run_begins h2.ok (t ++ [c]) x
  rw [List.append_assoc, List.singleton_append] at b1 b2
  rw [z] at b1
  rw [advP_app, w1, ← k.p, List.append_assoc] at b1
  rw [advP_app, w2, ← k.q, List.append_assoc] at b2
  have := List.prefix_or_prefix_of_prefix b1 b2
  unfold Row.nx at e
  split at e
  · cases e
  · rename_i n1
    split at e
    · cases e
    · rename_i n2
      rcases this with h | h
      · exact n2 ((List.prefix_append_right_inj w).mp h)
      · exact n1 ((List.prefix_append_right_inj w).mp h)
/-! ### the program's defs -/
def startROk (C : Oracle) : Prop := ∀ (xs ys : List Stp) (hp : List AV) (Q : AV → Bool → List AV → Prop) (E : AV → List AV → Prop), xs.length ≤ 24 → ys.length ≤ 24 → Q (Row.ini xs ys).av false hp → (C "start_row" [stepsAV xs, stepsAV ys] hp).W Q E
theorem startR_ok {C C' : Oracle} (h : C "start_row" = run C' dstart_row) (hS : startOk C') : startROk C := by
  intro xs ys hp Q E h1 h2 hq
  rw [h]
  refine W_run rfl ?_
  simp only [dstart_row, startS]
  refine W_cons ?_
  simp
  refine hS xs hp _ _ h1 ?_
  simp
  refine hS ys hp _ _ h2 ?_
  simp
  exact hq
def agOk (C : Oracle) : Prop := ∀ (r : Row) (xs ys : List Stp) (hp : List AV) (Q : AV → Bool → List AV → Prop) (E : AV → List AV → Prop), r.Ok xs ys → r.a.length ≤ 6000000 → r.b.length ≤ 6000000 → Q (.bl r.ag) false hp → (C "row_agrees" [stepsAV xs, stepsAV ys, r.av] hp).W Q E
theorem ag_ok {C C' : Oracle} (h : C "row_agrees" = run C' drow_agrees) (hF : finOk C') : agOk C := by
  intro r xs ys hp Q E k ha hb hq
  have b1 := runP_le k.p.ok k.p.grow k.p.len (t := []) (by simp)
  have b2 := runP_le k.q.ok k.q.grow k.q.len (t := []) (by simp)
  rw [← fin_run _ _ k.p.ok] at b1
  rw [← fin_run _ _ k.q.ok] at b2
  rw [h]
  refine W_run rfl ?_
  simp only [drow_agrees, startS, Row.av]
  refine W_cons ?_
  simp [atX]
  refine hF r.p xs hp _ _ k.p k.pf ?_
  simp
  refine ⟨by omega, ?_⟩
  refine hF r.q ys hp _ _ k.q k.qf ?_
  simp [eqA_str]
  refine ⟨by omega, ?_⟩
  exact hq
def nxOk (C : Oracle) : Prop := ∀ (r : Row) (xs ys : List Stp) (c : Nat) (hp : List AV) (Q : AV → Bool → List AV → Prop) (E : AV → List AV → Prop), r.Ok xs ys → r.a.length ≤ 6000000 → r.b.length ≤ 6000000 → Q (optRow (r.nx c)) false hp → (C "next_row" [stepsAV xs, stepsAV ys, r.av, .str [c]] hp).W Q E
theorem nx_ok {C C' : Oracle} (h : C "next_row" = run C' dnext_row) (hA : advOk C') : nxOk C := by
  intro r xs ys c hp Q E k ha hb hq
  have b1 := advP_le k.p.ok k.p.grow k.p.len (t := [c]) (by simp)
  have b2 := advP_le k.q.ok k.q.grow k.q.len (t := [c]) (by simp)
  rw [h]
  refine W_run rfl ?_
  simp only [dnext_row, startS, Row.av]
  refine W_cons ?_
  simp [atX]
  refine hA r.p xs [c] hp _ _ k.p k.pf (by simp) ?_
  simp [S.putAll]
  refine W_cons ?_
  simp [atX]
  refine hA r.q ys [c] hp _ _ k.q k.qf (by simp) ?_
  simp [S.putAll]
  refine W_cons ?_
  simp [atX]
  refine ⟨by omega, ?_⟩
  refine W_cons ?_
  simp [atX]
  refine ⟨by omega, ?_⟩
  unfold Row.nx at hq
  refine W_cons ?_
  simp
  split
  · rename_i hc
    rw [if_pos hc] at hq
    have cut := cut_from (r.a ++ (advP r.p [c]).2) (r.b ++ (advP r.q [c]).2).length
    simp only [List.length_append, Int.natCast_add] at cut
    refine W_cons ?_
    simp [cut]
    simpa [Row.av] using hq
  · rename_i hc
    rw [if_neg hc] at hq
    refine W_cons ?_
    simp
    split
    · rename_i hc2
      rw [if_pos hc2] at hq
      have cut := cut_from (r.b ++ (advP r.q [c]).2) (r.a ++ (advP r.p [c]).2).length
      simp only [List.length_append, Int.natCast_add] at cut
      refine W_cons ?_
      simp [cut]
      simpa [Row.av] using hq
    · rename_i hc2
      rw [if_neg hc2] at hq
      refine W_cons ?_
      simp
      exact hq
end Q
end

section
set_option linter.all false
set_option maxRecDepth 100000
set_option maxHeartbeats 1000000
/-! Rows2: how the laws follow rows; letters; lists near another. -/
namespace Q
def lnxOk (C : Oracle) : Prop := ∀ (r : Row) (xs ys : List Stp) (c : Nat) (hp : List AV) (Q : AV → Bool → List AV → Prop) (E : AV → List AV → Prop), r.Ok xs ys → r.a.length ≤ 6000000 → r.b.length ≤ 6000000 → Q (optRow (r.nx c)) false hp → (C "_law_next" [.lst (xs.map Stp.av), .lst (ys.map Stp.av), r.av, .str [c]] hp).W Q E
theorem lnx_ok {C C' : Oracle} (h : C "_law_next" = run C' d_law_next) (hA : ladvOk C') : lnxOk C := by
  intro r xs ys c hp Q E k ha hb hq
  have b1 := advP_le k.p.ok k.p.grow k.p.len (t := [c]) (by simp)
  have b2 := advP_le k.q.ok k.q.grow k.q.len (t := [c]) (by simp)
  rw [h]
  refine W_run rfl ?_
  simp only [d_law_next, startS, Row.av]
  refine W_cons ?_
  simp [atX]
  refine hA r.p xs [c] hp _ _ k.p k.pf (by simp) ?_
  simp
  refine W_cons ?_
  simp [atX]
  refine hA r.q ys [c] hp _ _ k.q k.qf (by simp) ?_
  simp
  refine W_cons ?_
  simp [atX]
  refine ⟨by omega, ?_⟩
  refine W_cons ?_
  simp [atX]
  refine ⟨by omega, ?_⟩
  unfold Row.nx at hq
  refine W_cons ?_
  simp
  split
  · rename_i hc
    rw [if_pos hc] at hq
    have cut := cut_from (r.a ++ (advP r.p [c]).2) (r.b ++ (advP r.q [c]).2).length
    simp only [List.length_append, Int.natCast_add] at cut
    refine W_cons ?_
    simp [cut, atX]
    simpa [Row.av] using hq
  · rename_i hc
    rw [if_neg hc] at hq
    refine W_cons ?_
    simp
    split
    · rename_i hc2
      rw [if_pos hc2] at hq
      have cut := cut_from (r.b ++ (advP r.q [c]).2) (r.a ++ (advP r.p [c]).2).length
      simp only [List.length_append, Int.natCast_add] at cut
      refine W_cons ?_
      simp [cut, atX]
      simpa [Row.av] using hq
    · rename_i hc2
      rw [if_neg hc2] at hq
      refine W_cons ?_
      simp
      exact hq
def rowOk (C : Oracle) : Prop := ∀ (r : Row) (n m : Nat) (hp : List AV) (Q : AV → Bool → List AV → Prop) (E : AV → List AV → Prop), r.p.length = n → r.q.length = m → Q (.bl true) false hp → (C "_law_row" [r.av, .int n, .int m] hp).W Q E
theorem row_ok {C C' : Oracle} (h : C "_law_row" = run C' d_law_row) (hH : heldOkQ C') : rowOk C := by
  rintro r n m hp Q E rfl rfl hq
  rw [h]
  refine W_run rfl ?_
  simp only [d_law_row, startS, Row.av]
  refine W_cons ?_
  simp [eqA_int]
  refine W_cons ?_
  simp [atX]
  refine W_cons ?_
  simp [atX]
  refine hH r.p hp _ _ ?_
  simp [atX]
  refine hH r.q hp _ _ ?_
  simp
  exact hq
theorem row_no {C C' : Oracle} (h : C "_law_row" = run C' d_law_row) (n m : Nat) (hp : List AV) (Q : AV → Bool → List AV → Prop) (E : AV → List AV → Prop) (hq : Q (.bl false) false hp) : (C "_law_row" [.non, .int n, .int m] hp).W Q E := by
  rw [h]
  refine W_run rfl ?_
  simp only [d_law_row, startS]
  refine W_cons ?_
  simp
  refine W_cons ?_
  simp
  exact hq
theorem plain_row (r : Row) : plain r.av = true := by
  have h1 := plain_heldN 38 r.p
  have h2 := plain_heldN 38 r.q
  simp [plain, plainN, plainLN, Row.av, heldAV, h1, h2]
/-! ### letters -/
theorem readsL_app (xs ys : List Stp) : readsL (xs ++ ys) = readsL xs ++ readsL ys := by simp [readsL]
theorem readsLof {sts : List Stp} {cs : List Nat} (h : ∀ st ∈ sts, st.of cs) : ∀ c ∈ readsL sts, c ∈ cs := fun c hc => by
  obtain ⟨st, hs, hc⟩ := (readsL_mem sts c).1 hc
  exact Stp.reads_of (h st hs) c hc
def sharedOk (C : Oracle) : Prop := ∀ (xs ys : List Stp) (cs : List Nat) (hp : List AV) (Q : AV → Bool → List AV → Prop) (E : AV → List AV → Prop), OkL xs → OkL ys → (∀ st ∈ xs, st.of cs) → (∀ st ∈ ys, st.of cs) → cs.length ≤ 50 → (∀ c ∈ cs, c < 128) → Q (.str (sgn (readsL (xs ++ ys)))) false hp → (C "shared_letters" [stepsAV xs, stepsAV ys] hp).W Q E
theorem shared_ok {C C' : Oracle} (h : C "shared_letters" = run C' dshared_letters) (hA : alphLOk C') : sharedOk C := by
  intro xs ys cs hp Q E k1 k2 o1 o2 hl hc hq
  have m1 := readsLof o1
  have m2 := readsLof o2
  have l1 := sgn_sub m1
  have l2 := sgn_sub m2
  have hm : ∀ c, c ∈ sgn (readsL xs) ++ sgn (readsL ys) ↔ c ∈ readsL (xs ++ ys) := fun c => by
    rw [readsL_app, List.mem_append, List.mem_append, mem_sgn (fun c h => hc c (m1 c h)), mem_sgn (fun c h => hc c (m2 c h))]
  have hin : ∀ c ∈ sgn (readsL xs) ++ sgn (readsL ys), c ∈ cs := fun c h => by
    have := (hm c).1 h
    rw [readsL_app, List.mem_append] at this
    exact this.elim (m1 c) (m2 c)
  rw [h]
  refine W_run rfl ?_
  simp only [dshared_letters, startS]
  refine W_cons ?_
  simp
  refine hA xs cs hp _ _ k1 o1 hl hc ?_
  refine hA ys cs hp _ _ k2 o2 hl hc ?_
  simp only [mdOf_f, bop_addS, W_ofO_ite]
  refine ⟨by simp; omega, ?_⟩
  simp only [ssetX_s, W_ofO_ite]
  have l3 := sgn_sub hin
  have e : sgn (sgn (readsL xs) ++ sgn (readsL ys)) = sgn (readsL (xs ++ ys)) := sgn_ext hm
  rw [e] at l3 ⊢
  refine ⟨⟨fun c h => hc c (hin c h), by simp; omega, by omega⟩, ?_⟩
  have hj := joinO_chrs (t := sgn (readsL (xs ++ ys))) (by omega)
  unfold chrs at hj
  simp [hj]
  exact hq
/-! ### lists near another -/
theorem cut_ab {α : Type} (xs : List α) (a b : Nat) : cutX xs (.int a) (.int b) = some ((xs.drop a).take (b - a)) := by
  unfold cutX
  rw [clamp_nn (by omega), clamp_nn (by omega)]
  simp only [Int.toNat_natCast, Option.some.injEq]
  by_cases ha : a ≤ xs.length
  · rw [Nat.min_eq_left ha]
    by_cases hb : b ≤ xs.length
    · rw [Nat.min_eq_left hb]
    · rw [Nat.min_eq_right (by omega), List.take_of_length_le (l := xs.drop a) (by simp), List.take_of_length_le (by simp; omega)]
  · rw [List.drop_eq_nil_of_le (by omega), List.drop_eq_nil_of_le (by omega)]
    simp
theorem cut_a1 {α : Type} (xs : List α) (a : Nat) : cutX xs (.int a) (.int ((a : Int) + 1)) = some ((xs.drop a).take 1) := by
  have := cut_ab xs a (a + 1)
  simpa using this
theorem cut_a2 {α : Type} (xs : List α) (a : Nat) : cutX xs (.int a) (.int ((a : Int) + 2)) = some ((xs.drop a).take 2) := by
  have := cut_ab xs a (a + 2)
  simpa using this
theorem cut_f1 {α : Type} (xs : List α) (a : Nat) : cutX xs (.int ((a : Int) + 1)) .non = some (xs.drop (a + 1)) := by
  have := cut_from xs (a + 1)
  simpa using this
theorem cut_f2 {α : Type} (xs : List α) (a : Nat) : cutX xs (.int ((a : Int) + 2)) .non = some (xs.drop (a + 2)) := by
  have := cut_from xs (a + 2)
  simpa using this
/-- a step of a drawn list -/
structure Stp.dr (cs : List Nat) (st : Stp) : Prop where
  ok : st.ok
  of : st.of cs
  sm : st.small
def otherDOk (C : Oracle) (f : String) : Prop := ∀ (R hp : List AV) (cs : List Nat) (xs : List Stp) (Q : AV → Bool → List AV → Prop) (E : AV → List AV → Prop), Pool R hp → 0 < cs.length → cs.length ≤ 50 → cs.Nodup → xs.length ≤ 1000 → (∀ st ∈ xs, st.dr cs) →
  (∀ (ys : List Stp) hp', (∀ st ∈ ys, st.dr cs) → (ys.length ≤ 2 * xs.length + 1 ∨ ys.length ≤ 3) → Pool R hp' → Q (.lst (ys.map Stp.av)) true hp') → (C f [.ref 0, .lst (chrs cs), .lst (xs.map Stp.av)] hp).W Q E
theorem otherD_ok {C C' : Oracle} {f : String} (h : C f = run C' d_law_other) (hD : drawOk C') (hW : wordOk C' "_law_word") (hS : stepDOk C' "_law_step") (hL : listDOk C' "_law_list") : otherDOk C f := by
  intro R hp cs xs Q E hP hc0 hcl hnd hxl hx k
  have hcs : cs ≠ [] := by intro h; simp [h] at hc0
  have mk : ∀ (ys : List Stp) hp', (∀ st ∈ ys, st ∈ xs) → ys.length ≤ 2 * xs.length + 1 → Pool R hp' → Q (.lst (ys.map Stp.av)) true hp' := fun ys hp' h1 h2 h3 => k ys hp' (fun st hs => hx st (h1 st hs)) (.inl h2) h3
  have mt : ∀ {n : Nat} {st : Stp}, st ∈ xs.take n → st ∈ xs := fun h => List.mem_of_mem_take h
  have md : ∀ {n : Nat} {st : Stp}, st ∈ xs.drop n → st ∈ xs := fun h => List.mem_of_mem_drop h
  rw [h]
  refine W_run rfl ?_
  simp only [d_law_other, startS]
  refine W_cons ?_
  simp
  refine hD R hp 8 _ _ hP (by decide) (by decide) fun r1 hp1 a1 a2 hP1 => ?_
  simp
  refine W_cons ?_
  simp
  refine hD R hp1 (xs.length + 1) _ _ hP1 (by omega) (by omega) fun r2 hp2 a3 a4 hP2 => ?_
  obtain ⟨n, rfl⟩ : ∃ n : Nat, r2 = n := ⟨r2.toNat, by omega⟩
  have ct := cut_to (xs.map Stp.av) n
  have cf := cut_from (xs.map Stp.av) n
  have cf1 := cut_f1 (xs.map Stp.av) n
  have cf2 := cut_f2 (xs.map Stp.av) n
  have ca1 := cut_a1 (xs.map Stp.av) n
  have ca2 := cut_a2 (xs.map Stp.av) n
  have lt : (xs.take n).length ≤ n := by simp; omega
  simp
  refine W_cons ?_
  simp [eqA_int]
  split
  · refine W_cons ?_
    simp [ct, cf1]
    refine ⟨by omega, ?_⟩
    have := mk (xs.take n ++ xs.drop (n + 1)) hp2 (fun st hs => (List.mem_append.mp hs).elim mt md) (by simp; omega) hP2
    simpa using this
  · refine W_cons ?_
    simp [eqA_int]
    split
    · refine W_cons ?_
      simp [ct, cf2, ca2]
      refine ⟨by omega, by omega, ?_⟩
      have := mk (xs.take n ++ ((xs.drop n).take 2).reverse ++ xs.drop (n + 2)) hp2 (fun st hs => by
        rcases List.mem_append.mp hs with h | h
        · rcases List.mem_append.mp h with h | h
          · exact mt h
          · exact md (List.mem_of_mem_take (List.mem_reverse.mp h))
        · exact md h) (by simp; omega) hP2
      simpa [List.map_reverse, List.map_take, List.map_drop] using this
    · refine W_cons ?_
      simp [eqA_int]
      split
      · refine W_cons ?_
        simp
        refine hD R hp2 3 _ _ hP2 (by decide) (by decide) fun r3 hp3 a5 a6 hP3 => ?_
        simp
        refine hW R hp3 cs (1 + r3) _ _ hP3 hcs (by omega) (by omega) (by omega) fun w hp4 hw1 hw2 hP4 => ?_
        simp
        refine W_cons ?_
        simp [ct, cf]
        refine ⟨by omega, by omega, ?_⟩
        have hdr : (Stp.repl w w).dr cs := ⟨⟨by intro h; subst h; simp at hw1; omega, by omega, by omega⟩, ⟨hw2, hw2⟩, ⟨by omega, by omega⟩⟩
        have := k (xs.take n ++ [.repl w w] ++ xs.drop n) hp4 (fun st hs => by
          rcases List.mem_append.mp hs with h | h
          · rcases List.mem_append.mp h with h | h
            · exact hx st (mt h)
            · simp at h; subst h; exact hdr
          · exact hx st (md h)) (.inl (by simp; omega)) hP4
        simpa [Stp.av, tR] using this
      · refine W_cons ?_
        simp [eqA_int]
        split
        · refine W_cons ?_
          simp [ct, cf]
          refine hS R hp2 cs _ _ hP2 hc0 hcl hnd fun st hp3 h1 h2 h3 hP3 => ?_
          simp
          refine ⟨by omega, ?_⟩
          simp [cf]
          refine ⟨by omega, ?_⟩
          have := k (xs.take n ++ [st] ++ xs.drop n) hp3 (fun x hs => by
            rcases List.mem_append.mp hs with h | h
            · rcases List.mem_append.mp h with h | h
              · exact hx x (mt h)
              · simp at h; subst h; exact ⟨h1, h2, h3⟩
            · exact hx x (md h)) (.inl (by simp; omega)) hP3
          simpa using this
        · refine W_cons ?_
          simp [eqA_int]
          split
          · refine W_cons ?_
            simp
            refine ⟨by omega, ?_⟩
            have := mk (xs ++ xs) hp2 (fun st hs => (List.mem_append.mp hs).elim id id) (by simp; omega) hP2
            simpa using this
          · refine W_cons ?_
            simp [eqA_int]
            split
            · refine W_cons ?_
              simp [ct, cf1, ca1]
              refine ⟨by omega, by omega, by omega, ?_⟩
              have hl1 : ((xs.drop n).take 1).length ≤ 1 := by simp; omega
              have := mk (xs.take n ++ ((xs.drop n).take 1 ++ (xs.drop n).take 1) ++ xs.drop (n + 1)) hp2 (fun st hs => by
                rcases List.mem_append.mp hs with h | h
                · rcases List.mem_append.mp h with h | h
                  · exact mt h
                  · exact (List.mem_append.mp h).elim (fun h => md (List.mem_of_mem_take h)) (fun h => md (List.mem_of_mem_take h))
                · exact md h) (by simp; omega) hP2
              simpa [List.map_take, List.map_drop, List.replicate_succ] using this
            · refine W_cons ?_
              simp [eqA_int]
              split
              · refine W_cons ?_
                simp [ct, cf1]
                refine hS R hp2 cs _ _ hP2 hc0 hcl hnd fun st hp3 h1 h2 h3 hP3 => ?_
                simp
                refine ⟨by omega, ?_⟩
                simp [cf1]
                refine ⟨by omega, ?_⟩
                have := k (xs.take n ++ [st] ++ xs.drop (n + 1)) hp3 (fun x hs => by
                  rcases List.mem_append.mp hs with h | h
                  · rcases List.mem_append.mp h with h | h
                    · exact hx x (mt h)
                    · simp at h; subst h; exact ⟨h1, h2, h3⟩
                  · exact hx x (md h)) (.inl (by simp; omega)) hP3
                simpa using this
              · refine W_cons ?_
                simp
                refine hL R hp2 cs 4 _ _ hP2 hc0 hcl hnd (by decide) (by decide) fun ys hp3 hl hs hP3 => ?_
                simp
                exact k ys hp3 (fun st h => ⟨(hs st h).1, (hs st h).2.1, (hs st h).2.2⟩) (.inr (by omega)) hP3
theorem Row.nx_len {xs ys : List Stp} {r r' : Row} {c : Nat} {m : Nat} (k : r.Ok xs ys) (e : r.nx c = some r') (h1 : growL xs * (1 + 20 * xs.length) ≤ m) (h2 : growL ys * (1 + 20 * ys.length) ≤ m) : r'.a.length ≤ r.a.length + m ∧ r'.b.length ≤ r.b.length + m := by
  have a1 := advP_len (t := [c]) k.p.ok
  have a2 := advP_len (t := [c]) k.q.ok
  have l1 : r.p.length = xs.length := by rw [← k.pf]; simp
  have l2 : r.q.length = ys.length := by rw [← k.qf]; simp
  rw [k.pf, l1] at a1
  rw [k.qf, l2] at a2
  simp only [List.length_singleton] at a1 a2
  unfold Row.nx at e
  split at e
  · cases e
    refine ⟨?_, by simp⟩
    simp only [List.length_drop, List.length_append]
    omega
  · split at e
    · cases e
      refine ⟨by simp, ?_⟩
      simp only [List.length_drop, List.length_append]
      omega
    · cases e
theorem Row.Ok.lens {xs ys : List Stp} {r : Row} (k : r.Ok xs ys) : r.p.length = xs.length ∧ r.q.length = ys.length := ⟨by rw [← k.pf]; simp, by rw [← k.qf]; simp⟩
theorem dr_growL {cs : List Nat} {xs : List Stp} (h : ∀ st ∈ xs, st.dr cs) : growL xs ≤ 2 ^ xs.length := growL_small fun st hs => ⟨(h st hs).ok, (h st hs).sm⟩
theorem dr_okL {cs : List Nat} {xs : List Stp} (h : ∀ st ∈ xs, st.dr cs) (hl : xs.length ≤ 9) : OkL xs := okL_small (fun st hs => ⟨(h st hs).ok, (h st hs).sm⟩) hl
theorem dr_mono {cs ds : List Nat} {st : Stp} (h : st.dr cs) (s : ∀ c ∈ cs, c ∈ ds) : st.dr ds := ⟨h.ok, Stp.of_mono h.of s, h.sm⟩
theorem dr_bound {cs : List Nat} {xs : List Stp} {n : Nat} (h : ∀ st ∈ xs, st.dr cs) (hl : xs.length ≤ n) : growL xs * (1 + 20 * xs.length) ≤ 2 ^ n * (1 + 20 * n) :=
  Nat.mul_le_mul (Nat.le_trans (dr_growL h) (Nat.pow_le_pow_right (by decide) hl)) (by omega)
end Q
end

section
set_option linter.all false
set_option maxRecDepth 100000
namespace Q
def dlaw : IFn := ⟨1, 10, [.asgr 1 (.bin .add (.lst [.bin .add (.bcall .len [.v 0]) (.c (.int 7))]) (.bcall .list [.v 0])), .asg (.nm 2) (.call "_law_letters" [.v 1, .c (.int 4)]), .asg (.nm 3) (.call "_law_any" [.v 1, .v 2]), .ite (.cmp .eq (.call "_law_draw" [.v 1, .c (.int 4)]) (.c (.int 0))) [.for_ (.nm 8) (.rng1 (.ix (.lst [.call "_law_draw" [.v 1, .c (.int 17)], .bin .sub (.c (.int 24)) (.bcall .len [.v 3])]) (.call "_law_draw" [.v 1, .c (.int 2)]))) [.app 3 (.tup [.c (.str [114, 101, 112, 108, 97, 99, 101]), .ix (.v 2) (.call "_law_draw" [.v 1, .c (.int 4)]), .ix (.v 2) (.call "_law_draw" [.v 1, .c (.int 4)])])]] [], .asg (.nm 4) (.sl (.call "_law_text" [.v 1, .call "_law_parts" [.v 2, .v 3], .call "_law_draw" [.v 1, .c (.int 12)]]) (.c .non) (.c (.int 30))), .asg (.nm 5) (.call "Steps" [.v 3]), .asg (.nm 6) (.call "start" [.v 5]), .asg (.nm 7) (.c (.str [])), .for_ (.nm 8) (.rng1 (.bcall .len [.v 4])) [.asg (.nm 9) (.call "advance" [.v 5, .v 6, .ix (.v 4) (.v 8)]), .asg (.nm 6) (.ix (.v 9) (.c (.int 0))), .asg (.nm 7) (.bin .add (.v 7) (.ix (.v 9) (.c (.int 1)))), .ite (.cmp .ne (.bin .add (.v 7) (.call "finish" [.v 5, .v 6])) (.call "_law_run" [.v 3, .sl (.v 4) (.c .non) (.bin .add (.v 8) (.c (.int 1)))])) [.ret (.c (.bl false))] []], .ret (.and_ [.cmp .eq (.bin .add (.v 7) (.call "finish" [.v 5, .v 6])) (.call "_law_run" [.v 3, .v 4]), .cmp .eq (.dun "__call__" ["Steps"] (.v 5) [.v 4]) (.call "_law_run" [.v 3, .v 4])])]⟩
noncomputable def C1 : Oracle := fun f => if f = "is_map" then run C0 dis_map else C0 f
noncomputable def C2 : Oracle := fun f => if f = "is_step" then run C1 dis_step else C1 f
noncomputable def C3 : Oracle := fun f => if f = "step_growth" then run C2 dstep_growth else C2 f
noncomputable def C4 : Oracle := fun f => if f = "Steps" then runI "Steps" C3 dSteps else C3 f
noncomputable def C5 : Oracle := fun f => if f = "mapped" then run C4 dmapped else C4 f
noncomputable def C6 : Oracle := fun f => if f = "squeezed" then run C5 dsqueezed else C5 f
noncomputable def C7 : Oracle := fun f => if f = "run_step" then run C6 drun_step else C6 f
noncomputable def C8 : Oracle := fun f => if f = "Steps.__call__" then run C7 dSteps_o___call__ else C7 f
noncomputable def C9 : Oracle := fun f => if f = "_law_draw" then run C8 d_law_draw else C8 f
noncomputable def C10 : Oracle := fun f => if f = "_law_word" then run C9 d_law_word else C9 f
noncomputable def C11 : Oracle := fun f => if f = "_law_old" then run C10 d_law_old else C10 f
noncomputable def C12 : Oracle := fun f => if f = "_law_kind" then run C11 d_law_kind else C11 f
noncomputable def C13 : Oracle := fun f => if f = "_law_step" then run C12 d_law_step else C12 f
noncomputable def C14 : Oracle := fun f => if f = "_law_list" then run C13 d_law_list else C13 f
noncomputable def C15 : Oracle := fun f => if f = "_law_any" then run C14 d_law_any else C14 f
noncomputable def C16 : Oracle := fun f => if f = "_law_char" then run C15 d_law_char else C15 f
noncomputable def C17 : Oracle := fun f => if f = "_law_letters" then run C16 d_law_letters else C16 f
noncomputable def C18 : Oracle := fun f => if f = "_law_parts" then run C17 d_law_parts else C17 f
noncomputable def C19 : Oracle := fun f => if f = "_law_mapped" then run C18 d_law_mapped else C18 f
noncomputable def C20 : Oracle := fun f => if f = "_law_squeezed" then run C19 d_law_squeezed else C19 f
noncomputable def C21 : Oracle := fun f => if f = "_law_run" then run C20 d_law_run else C20 f
noncomputable def C22 : Oracle := fun f => if f = "_law_text" then run C21 d_law_word else C21 f
noncomputable def C23 : Oracle := fun f => if f = "read_old" then run C22 dread_old else C22 f
noncomputable def C24 : Oracle := fun f => if f = "read_char" then run C23 dread_char else C23 f
noncomputable def C25 : Oracle := fun f => if f = "read_text" then run C24 dread_text else C24 f
noncomputable def C26 : Oracle := fun f => if f = "advance" then run C25 dadvance else C25 f
noncomputable def C27 : Oracle := fun f => if f = "finish" then run C26 dfinish else C26 f
noncomputable def C28 : Oracle := fun f => if f = "Steps.__len__" then run C27 dSteps_o___len__ else C27 f
noncomputable def C29 : Oracle := fun f => if f = "start" then run C28 dstart else C28 f
theorem o1_is_map : C1 "is_map" = run C0 dis_map := by simp [C1]
theorem o3_is_step : C3 "is_step" = run C1 dis_step := by simp [C3, C2]
theorem o3_step_growth : C3 "step_growth" = run C2 dstep_growth := by simp [C3]
theorem o6_mapped : C6 "mapped" = run C4 dmapped := by simp [C6, C5]
theorem o6_squeezed : C6 "squeezed" = run C5 dsqueezed := by simp [C6]
theorem o7_run_step : C7 "run_step" = run C6 drun_step := by simp [C7]
theorem o9__law_draw : C9 "_law_draw" = run C8 d_law_draw := by simp [C9]
theorem o10__law_draw : C10 "_law_draw" = run C8 d_law_draw := by simp [C10, C9]
theorem o10__law_word : C10 "_law_word" = run C9 d_law_word := by simp [C10]
theorem o11__law_draw : C11 "_law_draw" = run C8 d_law_draw := by simp [C11, C10, C9]
theorem o11__law_old : C11 "_law_old" = run C10 d_law_old := by simp [C11]
theorem o11__law_word : C11 "_law_word" = run C9 d_law_word := by simp [C11, C10]
theorem o12__law_draw : C12 "_law_draw" = run C8 d_law_draw := by simp [C12, C11, C10, C9]
theorem o12__law_word : C12 "_law_word" = run C9 d_law_word := by simp [C12, C11, C10]
theorem o13__law_draw : C13 "_law_draw" = run C8 d_law_draw := by simp [C13, C12, C11, C10, C9]
theorem o13__law_step : C13 "_law_step" = run C12 d_law_step := by simp [C13]
theorem o14__law_draw : C14 "_law_draw" = run C8 d_law_draw := by simp [C14, C13, C12, C11, C10, C9]
theorem o14__law_kind : C14 "_law_kind" = run C11 d_law_kind := by simp [C14, C13, C12]
theorem o14__law_list : C14 "_law_list" = run C13 d_law_list := by simp [C14]
theorem o14__law_step : C14 "_law_step" = run C12 d_law_step := by simp [C14, C13]
theorem o16__law_char : C16 "_law_char" = run C15 d_law_char := by simp [C16]
theorem o16__law_draw : C16 "_law_draw" = run C8 d_law_draw := by simp [C16, C15, C14, C13, C12, C11, C10, C9]
theorem o20__law_mapped : C20 "_law_mapped" = run C18 d_law_mapped := by simp [C20, C19]
theorem o20__law_squeezed : C20 "_law_squeezed" = run C19 d_law_squeezed := by simp [C20]
theorem o21__law_draw : C21 "_law_draw" = run C8 d_law_draw := by simp [C21, C20, C19, C18, C17, C16, C15, C14, C13, C12, C11, C10, C9]
theorem o23_read_old : C23 "read_old" = run C22 dread_old := by simp [C23]
theorem o24_read_char : C24 "read_char" = run C23 dread_char := by simp [C24]
theorem o25_read_text : C25 "read_text" = run C24 dread_text := by simp [C25]
theorem o26_read_text : C26 "read_text" = run C24 dread_text := by simp [C26, C25]
theorem o28_Steps_o___len__ : C28 "Steps.__len__" = run C27 dSteps_o___len__ := by simp [C28]
theorem o29_Steps : C29 "Steps" = runI "Steps" C3 dSteps := by simp [C29, C28, C27, C26, C25, C24, C23, C22, C21, C20, C19, C18, C17, C16, C15, C14, C13, C12, C11, C10, C9, C8, C7, C6, C5, C4]
theorem o29_Steps_o___call__ : C29 "Steps.__call__" = run C7 dSteps_o___call__ := by simp [C29, C28, C27, C26, C25, C24, C23, C22, C21, C20, C19, C18, C17, C16, C15, C14, C13, C12, C11, C10, C9, C8]
theorem o29__law_any : C29 "_law_any" = run C14 d_law_any := by simp [C29, C28, C27, C26, C25, C24, C23, C22, C21, C20, C19, C18, C17, C16, C15]
theorem o29__law_draw : C29 "_law_draw" = run C8 d_law_draw := by simp [C29, C28, C27, C26, C25, C24, C23, C22, C21, C20, C19, C18, C17, C16, C15, C14, C13, C12, C11, C10, C9]
theorem o29__law_letters : C29 "_law_letters" = run C16 d_law_letters := by simp [C29, C28, C27, C26, C25, C24, C23, C22, C21, C20, C19, C18, C17]
theorem o29__law_parts : C29 "_law_parts" = run C17 d_law_parts := by simp [C29, C28, C27, C26, C25, C24, C23, C22, C21, C20, C19, C18]
theorem o29__law_run : C29 "_law_run" = run C20 d_law_run := by simp [C29, C28, C27, C26, C25, C24, C23, C22, C21]
theorem o29__law_text : C29 "_law_text" = run C21 d_law_word := by simp [C29, C28, C27, C26, C25, C24, C23, C22]
theorem o29_advance : C29 "advance" = run C25 dadvance := by simp [C29, C28, C27, C26]
theorem o29_finish : C29 "finish" = run C26 dfinish := by simp [C29, C28, C27]
theorem o29_start : C29 "start" = run C28 dstart := by simp [C29]
theorem w_Steps : mkOk C29 := mkW o29_Steps o3_is_step o1_is_map o3_step_growth
theorem w_Steps_o___call__ : callOk C29 := call_ok o29_Steps_o___call__ (run_ok o7_run_step o6_squeezed o6_mapped)
theorem w_law_any : anyDOk C29 "_law_any" := anyD_ok o29__law_any (draw_ok _ _ o14__law_draw) (stepD_ok o14__law_step (draw_ok _ _ o12__law_draw) (word_ok (pick_ok _ _ "_law_word" o12__law_word (draw_ok _ _ o9__law_draw)))) (kind_ok o14__law_kind (draw_ok _ _ o11__law_draw) (word_ok (pick_ok _ _ "_law_word" o11__law_word (draw_ok _ _ o9__law_draw))) (old_ok o11__law_old (draw_ok _ _ o10__law_draw) (word_ok (pick_ok _ _ "_law_word" o10__law_word (draw_ok _ _ o9__law_draw))))) (listD_ok o14__law_list (draw_ok _ _ o13__law_draw) (stepD_ok o13__law_step (draw_ok _ _ o12__law_draw) (word_ok (pick_ok _ _ "_law_word" o12__law_word (draw_ok _ _ o9__law_draw)))))
theorem w_law_draw : drawOk C29 := draw_ok _ _ o29__law_draw
theorem w_law_letters : lettersOk C29 := letters_ok _ _ o29__law_letters (draw_ok _ _ o16__law_draw) (char_ok _ _ o16__law_char)
theorem w_law_parts : partsOk C29 := partsW o29__law_parts
theorem w_law_run : lawRunOk C29 := lawRun_ok o29__law_run o20__law_squeezed o20__law_mapped
theorem w_law_text : textDOk C29 "_law_text" := textD_ok (pick_ok _ _ "_law_text" o29__law_text (draw_ok _ _ o21__law_draw))
theorem w_advance : advOk C29 := adv_ok o29_advance (rdT_ok2 o25_read_text (rd_ok o24_read_char o23_read_old))
theorem w_finish : finOk C29 := fin_ok o29_finish (rdT_ok2 o26_read_text (rd_ok o24_read_char o23_read_old))
theorem w_start : startOk C29 := startW o29_start o28_Steps_o___len__
end Q
end

section
set_option linter.all false
set_option maxRecDepth 100000
set_option maxHeartbeats 2000000
namespace Q
theorem hrunW (ns : List Int) (h : ns.length ≤ 63) : (run C29 dlaw [.lst (ns.map .int)] []).W (fun v b _ => v = .bl true ∧ b = false) fun _ _ => False := by
  refine W_run rfl ?_
  simp only [dlaw, startS]
  refine W_cons ?_
  simp
  refine ⟨by omega, ?_⟩
  refine W_cons ?_
  simp
  refine w_law_letters [] _ 4 _ _ ⟨(ns.length + 7 : Int) :: ns, by simp, by simp⟩ (by decide) fun cs hp1 hcl hnd hcm hP1 => ?_
  simp
  refine W_cons ?_
  simp
  refine w_law_any [] hp1 cs _ _ hP1 hcl hnd fun sts0 hp2 hsl0 hso0 hgr0 hP2 => ?_
  simp
  refine W_cut (fun s => ∃ sts hp b2 o8, OkL sts ∧ growL sts ≤ 160 ∧ Pool [] hp ∧ s = ⟨[some (.lst (ns.map .int), false), some (.ref 0, false), some (.lst (chrs cs), b2), some (.lst (sts.map Stp.av), true), none, none, none, none, o8, none], hp⟩) (fun K hK => ?_) ?_
  · simp
    refine w_law_draw [] hp2 4 _ _ hP2 (by decide) (by decide) fun r1 hp3 a1 a2 hP3 => ?_
    simp [eqA_int]
    split
    · refine W_cons ?_
      simp
      refine w_law_draw [] hp3 17 _ _ hP3 (by decide) (by decide) fun r2 hp4 a3 a4 hP4 => ?_
      simp
      refine w_law_draw [] hp4 2 _ _ hP4 (by decide) (by decide) fun r3 hp5 a5 a6 hP5 => ?_
      obtain ⟨n, hn, e1⟩ := atX_ints [r2, 24 - (sts0.length : Int)] a5 a6
      have hn0 : 0 ≤ n ∧ n + sts0.length ≤ 24 := by
        simp at hn
        omega
      simp at e1
      simp [e1]
      refine ⟨by omega, by omega, ?_⟩
      refine W_for_rng (fun i s => ∃ sts hp b2 o8, (∀ st ∈ sts, st.ok) ∧ sts.length = sts0.length + i ∧ growL sts ≤ 160 ∧ Pool [] hp ∧ s = ⟨[some (.lst (ns.map .int), false), some (.ref 0, false), some (.lst (chrs cs), b2), some (.lst (sts.map Stp.av), true), none, none, none, none, o8, none], hp⟩) ⟨sts0, hp5, false, none, fun st hs => (hso0 st hs).1, rfl, hgr0, hP5, rfl⟩ ?_ ?_
      · rintro i s K2 hi ⟨sts, hp, b2, o8, hok, hl, hg, hP, rfl⟩ hK2
        cases b2
        all_goals
         simp
         refine W_cons ?_
         simp
         refine w_law_draw [] hp 4 _ _ hP (by decide) (by decide) fun r4 hp6 a7 a8 hP6 => ?_
         obtain ⟨c1, hc1, _, ac1⟩ := atX_chrs (cs := cs) (r := r4) a7 (by omega)
         simp [ac1]
         refine w_law_draw [] hp6 4 _ _ hP6 (by decide) (by decide) fun r5 hp7 a9 a10 hP7 => ?_
         obtain ⟨c2, hc2, _, ac2⟩ := atX_chrs (cs := cs) (r := r5) a9 (by omega)
         simp [ac2]
         refine ⟨by omega, ?_⟩
         refine hK2 _ ⟨sts ++ [.repl [c1] [c2]], hp7, _, _, fun st hs => ?_, by simp [hl]; omega, ?_, hP7, by simp [Stp.av, tR]; exact ⟨rfl, rfl⟩⟩
         · rcases List.mem_append.mp hs with h | h
           · exact hok st h
           · simp at h; subst h; exact ⟨by simp, by simp, by simp⟩
         · rw [growL_app]
           simp [growL, Stp.growth]
           exact hg
      · rintro s ⟨sts, hp, b2, o8, hok, hl, hg, hP, rfl⟩
        simp
        exact hK _ ⟨sts, hp, b2, o8, ⟨hok, by omega, by omega⟩, hg, hP, rfl⟩
    · exact hK _ ⟨sts0, hp3, _, none, ⟨fun st hs => (hso0 st hs).1, by omega, by omega⟩, hgr0, hP3, rfl⟩
  · rintro s ⟨sts, hp3, b2, o8, kL, hg, hP3, rfl⟩
    have hsl := kL.len
    have hpm := partsL_len (cs := cs) (m := 20) (by decide) (olds_ok kL.ok)
    have hp0 : partsL cs sts ≠ [] := by
      intro h
      simp [partsL] at h
      rw [h.1] at hcl
      simp at hcl
    have hpl : (partsL cs sts).length < 100000 := by
      have := oldsOf_len sts
      simp [partsL]
      omega
    have hc30 := fun t : Tx => cutT t 30
    simp at hc30
    have go : ∀ (t : Tx) (hp : List AV) (b2 : Bool), Pool [] hp → t.length ≤ 30 → (exs C29 (dlaw.body.drop 5) ⟨[some (.lst (ns.map .int), false), some (.ref 0, false), some (.lst (chrs cs), b2), some (.lst (sts.map Stp.av), false), some (.str t, false), none, none, none, o8, none], hp⟩).W (fun fl s => rtW fl s fun v b x => v = AV.bl true ∧ b = false) fun x s => False := by
      intro t hp4 b2 hP4 ht
      simp only [dlaw, List.drop_succ_cons, List.drop_zero]
      refine W_cons ?_
      simp
      refine w_Steps sts _ hp4 _ _ kL (Or.inl rfl) ?_
      have hP5 := hP4.app [.non]
      generalize hp4 ++ [AV.non] = hp5 at hP5
      simp
      refine W_cons ?_
      simp
      refine w_start sts hp5 _ _ (by omega) ?_
      simp
      refine W_cons ?_
      simp
      refine W_cons ?_
      simp
      refine ⟨by omega, ?_⟩
      refine W_for_rng (fun i s => ∃ o8 o9, s = ⟨[some (.lst (ns.map .int), false), some (.ref 0, false), some (.lst (chrs cs), b2), some (.lst (sts.map Stp.av), false), some (.str t, false), some (stepsAV sts, false), some (heldAV (advP (iniP sts) (t.take i)).1, false), some (.str (advP (iniP sts) (t.take i)).2, false), o8, o9], hp5⟩) ⟨o8, none, by simp [advP_nil]⟩ ?_ ?_
      · rintro i s K hi ⟨o8, o9, rfl⟩ hK
        obtain ⟨c, hg0⟩ : ∃ c, t[i]? = some c := ⟨_, List.getElem?_eq_getElem (by omega)⟩
        have a1 : atX t (i : Int) = some c := atX_nat _ _ _ hg0
        have e := take_snoc hg0
        have kA := kL.ini.adv (t.take i)
        have hA := advP_app (iniP sts) (t.take i) [c]
        have hfst : (advP (iniP sts) (t.take i)).1.map (·.1) = sts := by rw [advP_fst, iniP_fst]
        have hfst2 : (advP (advP (iniP sts) (t.take i)).1 [c]).1.map (·.1) = sts := by rw [advP_fst]; exact hfst
        have hw := whole_run sts (t.take (i + 1)) kL.ok
        have b1 := runL_len sts (t.take (i + 1)) kL.ok
        rw [e, hA] at hw
        simp only at hw
        have hb2 : growL sts * (t.take (i + 1)).length ≤ 160 * 30 := Nat.mul_le_mul hg (by simp; omega)
        have b3 := congrArg List.length hw
        simp only [List.length_append] at b3
        rw [← e] at b3
        have cut1 := cut_to t (i + 1)
        simp at cut1
        simp
        refine W_cons ?_
        simp [a1]
        refine w_advance _ sts [c] hp5 _ _ kA hfst (by simp) ?_
        simp
        refine W_cons ?_
        simp [atX]
        refine W_cons ?_
        simp [atX]
        refine ⟨by omega, ?_⟩
        refine W_cons ?_
        simp
        refine w_finish _ sts hp5 _ _ (kA.adv [c]) hfst2 ?_
        simp
        refine ⟨by omega, ?_⟩
        simp [cut1]
        refine w_law_run sts _ hp5 _ _ kL.ok (by omega) ?_
        have hw2 : (advP (iniP sts) (t.take i)).2 ++ ((advP (advP (iniP sts) (t.take i)).1 [c]).2 ++ finP (advP (advP (iniP sts) (t.take i)).1 [c]).1 []) = runL sts (t.take (i + 1)) := by rw [e, ← hw, List.append_assoc]
        simp [eqA_str, hw2]
        exact hK _ ⟨_, _, by rw [e, hA]⟩
      · rintro s ⟨o8, o9, rfl⟩
        have e : t.take t.length = t := List.take_length
        have hw := whole_run sts t kL.ok
        have b1 := runL_len sts t kL.ok
        have hb2 : growL sts * t.length ≤ 160 * 30 := Nat.mul_le_mul hg ht
        have b3 := congrArg List.length hw
        simp only [List.length_append] at b3
        rw [e]
        simp
        refine W_cons ?_
        simp
        refine w_finish _ sts hp5 _ _ (kL.ini.adv t) (by rw [advP_fst, iniP_fst]) ?_
        simp
        refine ⟨by omega, ?_⟩
        refine w_law_run sts t hp5 _ _ kL.ok (by omega) ?_
        simp [eqA_str, hw]
        refine w_Steps_o___call__ sts t hp5 _ _ kL.ok (by omega) ?_
        refine w_law_run sts t hp5 _ _ kL.ok (by omega) ?_
        simp [eqA_str]
    refine W_cons ?_
    cases b2
    all_goals
     simp
     refine w_law_parts cs sts hp3 _ _ (by omega) (by omega) ?_
     simp
     refine w_law_draw [] hp3 12 _ _ hP3 (by decide) (by decide) fun r1 hp4 a1 a2 hP4 => ?_
     simp
     refine w_law_text [] hp4 _ r1 20 _ _ hP4 hp0 hpl hpm a1 (by omega) (by decide) fun ts hp5 ht1 ht2 ht3 hP5 => ?_
     simp [hc30]
     exact go _ hp5 _ hP5 (by simp; omega)
end Q
end
set_option linter.all false
set_option maxRecDepth 100000
set_option maxHeartbeats 0
namespace Q
open PySem PySem.Spec PyProof.Rows PySem.Builtin
def gsL : List (Str × Int) := [("MOST_GROWTH", 1000), ("MOST_NEW", 40), ("MOST_OLD", 20), ("MOST_STEPS", 24)]
def nis_map : List Str := ["pairs", "chars", "pair"]
def fis_map : String → Bool := fun _ => false
def psis_map : String → String → Bool := fun _ _ => false
def msis_map : String → String → Bool := fun _ _ => false
def itis_map : String → String → Bool := fun _ _ => false
theorem cis_map : okSs ⟨nis_map, (L2.defScope (topS PySem.Challenge.pw_replacelists_k14_whole_reading_is_the_re 18)).names, fun _ => true, fis_map, gsL, psis_map, msis_map, itis_map⟩ dis_map.body (L2.defBody (topS PySem.Challenge.pw_replacelists_k14_whole_reading_is_the_re 18)) = true := by decide +kernel
theorem sis_map : L2.FnScope nis_map ["pairs"] (L2.defScope (topS PySem.Challenge.pw_replacelists_k14_whole_reading_is_the_re 18)) := ⟨rfl, rfl, rfl, by decide +kernel, rfl, by decide +kernel, by decide +kernel⟩
def nis_step : List Str := ["value", "old", "new", "char", "pairs"]
def fis_step : String → Bool := fun x => ["is_map"].contains x
def psis_step : String → String → Bool := fun _ _ => false
def msis_step : String → String → Bool := fun _ _ => false
def itis_step : String → String → Bool := fun _ _ => false
theorem cis_step : okSs ⟨nis_step, (L2.defScope (topS PySem.Challenge.pw_replacelists_k14_whole_reading_is_the_re 19)).names, fun _ => true, fis_step, gsL, psis_step, msis_step, itis_step⟩ dis_step.body (L2.defBody (topS PySem.Challenge.pw_replacelists_k14_whole_reading_is_the_re 19)) = true := by decide +kernel
theorem sis_step : L2.FnScope nis_step ["value"] (L2.defScope (topS PySem.Challenge.pw_replacelists_k14_whole_reading_is_the_re 19)) := ⟨rfl, rfl, rfl, by decide +kernel, rfl, by decide +kernel, by decide +kernel⟩
def nstep_growth : List Str := ["step", "old", "new", "pairs", "pair"]
def fstep_growth : String → Bool := fun _ => false
def psstep_growth : String → String → Bool := fun _ _ => false
def msstep_growth : String → String → Bool := fun _ _ => false
def itstep_growth : String → String → Bool := fun _ _ => false
theorem cstep_growth : okSs ⟨nstep_growth, (L2.defScope (topS PySem.Challenge.pw_replacelists_k14_whole_reading_is_the_re 20)).names, fun _ => true, fstep_growth, gsL, psstep_growth, msstep_growth, itstep_growth⟩ dstep_growth.body (L2.defBody (topS PySem.Challenge.pw_replacelists_k14_whole_reading_is_the_re 20)) = true := by decide +kernel
theorem sstep_growth : L2.FnScope nstep_growth ["step"] (L2.defScope (topS PySem.Challenge.pw_replacelists_k14_whole_reading_is_the_re 20)) := ⟨rfl, rfl, rfl, by decide +kernel, rfl, by decide +kernel, by decide +kernel⟩
def nSteps : List Str := ["self", "steps", "listed", "growth", "step", "position"]
def fSteps : String → Bool := fun x => ["is_step", "step_growth"].contains x
def psSteps : String → String → Bool := fun _ _ => false
def msSteps : String → String → Bool := fun _ _ => false
def itSteps : String → String → Bool := fun _ _ => false
theorem cSteps : okIni ⟨nSteps, (L2.defScope (clsS (topS PySem.Challenge.pw_replacelists_k14_whole_reading_is_the_re 27) 0)).names, fun _ => true, fSteps, gsL, psSteps, msSteps, itSteps⟩ "self" dSteps (L2.defBody (clsS (topS PySem.Challenge.pw_replacelists_k14_whole_reading_is_the_re 27) 0)) = true := by decide +kernel
theorem sSteps : L2.FnScope nSteps ["self", "steps"] (L2.defScope (clsS (topS PySem.Challenge.pw_replacelists_k14_whole_reading_is_the_re 27) 0)) := ⟨rfl, rfl, rfl, by decide +kernel, rfl, by decide +kernel, by decide +kernel⟩
def nmapped : List Str := ["text", "pairs", "images", "char"]
def fmapped : String → Bool := fun _ => false
def psmapped : String → String → Bool := fun _ _ => false
def msmapped : String → String → Bool := fun _ _ => false
def itmapped : String → String → Bool := fun _ _ => false
theorem cmapped : okSs ⟨nmapped, (L2.defScope (topS PySem.Challenge.pw_replacelists_k14_whole_reading_is_the_re 22)).names, fun _ => true, fmapped, gsL, psmapped, msmapped, itmapped⟩ dmapped.body (L2.defBody (topS PySem.Challenge.pw_replacelists_k14_whole_reading_is_the_re 22)) = true := by decide +kernel
theorem smapped : L2.FnScope nmapped ["text", "pairs"] (L2.defScope (topS PySem.Challenge.pw_replacelists_k14_whole_reading_is_the_re 22)) := ⟨rfl, rfl, rfl, by decide +kernel, rfl, by decide +kernel, by decide +kernel⟩
def nsqueezed : List Str := ["text", "char", "parts", "before", "current"]
def fsqueezed : String → Bool := fun _ => false
def pssqueezed : String → String → Bool := fun _ _ => false
def mssqueezed : String → String → Bool := fun _ _ => false
def itsqueezed : String → String → Bool := fun _ _ => false
theorem csqueezed : okSs ⟨nsqueezed, (L2.defScope (topS PySem.Challenge.pw_replacelists_k14_whole_reading_is_the_re 21)).names, fun _ => true, fsqueezed, gsL, pssqueezed, mssqueezed, itsqueezed⟩ dsqueezed.body (L2.defBody (topS PySem.Challenge.pw_replacelists_k14_whole_reading_is_the_re 21)) = true := by decide +kernel
theorem ssqueezed : L2.FnScope nsqueezed ["text", "char"] (L2.defScope (topS PySem.Challenge.pw_replacelists_k14_whole_reading_is_the_re 21)) := ⟨rfl, rfl, rfl, by decide +kernel, rfl, by decide +kernel, by decide +kernel⟩
def nrun_step : List Str := ["step", "text", "old", "new", "char", "pairs"]
def frun_step : String → Bool := fun x => ["mapped", "squeezed"].contains x
def psrun_step : String → String → Bool := fun _ _ => false
def msrun_step : String → String → Bool := fun _ _ => false
def itrun_step : String → String → Bool := fun _ _ => false
theorem crun_step : okSs ⟨nrun_step, (L2.defScope (topS PySem.Challenge.pw_replacelists_k14_whole_reading_is_the_re 23)).names, fun _ => true, frun_step, gsL, psrun_step, msrun_step, itrun_step⟩ drun_step.body (L2.defBody (topS PySem.Challenge.pw_replacelists_k14_whole_reading_is_the_re 23)) = true := by decide +kernel
theorem srun_step : L2.FnScope nrun_step ["step", "text"] (L2.defScope (topS PySem.Challenge.pw_replacelists_k14_whole_reading_is_the_re 23)) := ⟨rfl, rfl, rfl, by decide +kernel, rfl, by decide +kernel, by decide +kernel⟩
def nSteps_o___call__ : List Str := ["self", "text", "step"]
def fSteps_o___call__ : String → Bool := fun x => ["run_step"].contains x
def psSteps_o___call__ : String → String → Bool := fun _ _ => false
def msSteps_o___call__ : String → String → Bool := fun _ _ => false
def itSteps_o___call__ : String → String → Bool := fun _ _ => false
theorem cSteps_o___call__ : okSs ⟨nSteps_o___call__, (L2.defScope (clsS (topS PySem.Challenge.pw_replacelists_k14_whole_reading_is_the_re 27) 2)).names, fun _ => true, fSteps_o___call__, gsL, psSteps_o___call__, msSteps_o___call__, itSteps_o___call__⟩ dSteps_o___call__.body (L2.defBody (clsS (topS PySem.Challenge.pw_replacelists_k14_whole_reading_is_the_re 27) 2)) = true := by decide +kernel
theorem sSteps_o___call__ : L2.FnScope nSteps_o___call__ ["self", "text"] (L2.defScope (clsS (topS PySem.Challenge.pw_replacelists_k14_whole_reading_is_the_re 27) 2)) := ⟨rfl, rfl, rfl, by decide +kernel, rfl, by decide +kernel, by decide +kernel⟩
def n_law_draw : List Str := ["_law_pool", "_law_limit", "_law_cell"]
def f_law_draw : String → Bool := fun _ => false
def ps_law_draw : String → String → Bool := fun _ _ => false
def ms_law_draw : String → String → Bool := fun _ _ => false
def it_law_draw : String → String → Bool := fun _ _ => false
theorem c_law_draw : okSs ⟨n_law_draw, (L2.defScope (topS PySem.Challenge.pw_replacelists_k14_whole_reading_is_the_re 29)).names, fun _ => true, f_law_draw, gsL, ps_law_draw, ms_law_draw, it_law_draw⟩ d_law_draw.body (L2.defBody (topS PySem.Challenge.pw_replacelists_k14_whole_reading_is_the_re 29)) = true := by decide +kernel
theorem s_law_draw : L2.FnScope n_law_draw ["_law_pool", "_law_limit"] (L2.defScope (topS PySem.Challenge.pw_replacelists_k14_whole_reading_is_the_re 29)) := ⟨rfl, rfl, rfl, by decide +kernel, rfl, by decide +kernel, by decide +kernel⟩
def n_law_word : List Str := ["_law_pool", "_law_letters_here", "_law_size", "_law_k"]
def f_law_word : String → Bool := fun x => ["_law_draw"].contains x
def ps_law_word : String → String → Bool := fun _ _ => false
def ms_law_word : String → String → Bool := fun _ _ => false
def it_law_word : String → String → Bool := fun _ _ => false
theorem c_law_word : okSs ⟨n_law_word, (L2.defScope (topS PySem.Challenge.pw_replacelists_k14_whole_reading_is_the_re 32)).names, fun _ => true, f_law_word, gsL, ps_law_word, ms_law_word, it_law_word⟩ d_law_word.body (L2.defBody (topS PySem.Challenge.pw_replacelists_k14_whole_reading_is_the_re 32)) = true := by decide +kernel
theorem s_law_word : L2.FnScope n_law_word ["_law_pool", "_law_letters_here", "_law_size"] (L2.defScope (topS PySem.Challenge.pw_replacelists_k14_whole_reading_is_the_re 32)) := ⟨rfl, rfl, rfl, by decide +kernel, rfl, by decide +kernel, by decide +kernel⟩
def n_law_old : List Str := ["_law_pool", "_law_letters_here", "_law_size", "_law_block"]
def f_law_old : String → Bool := fun x => ["_law_draw", "_law_word"].contains x
def ps_law_old : String → String → Bool := fun _ _ => false
def ms_law_old : String → String → Bool := fun _ _ => false
def it_law_old : String → String → Bool := fun _ _ => false
theorem c_law_old : okSs ⟨n_law_old, (L2.defScope (topS PySem.Challenge.pw_replacelists_k14_whole_reading_is_the_re 33)).names, fun _ => true, f_law_old, gsL, ps_law_old, ms_law_old, it_law_old⟩ d_law_old.body (L2.defBody (topS PySem.Challenge.pw_replacelists_k14_whole_reading_is_the_re 33)) = true := by decide +kernel
theorem s_law_old : L2.FnScope n_law_old ["_law_pool", "_law_letters_here", "_law_size"] (L2.defScope (topS PySem.Challenge.pw_replacelists_k14_whole_reading_is_the_re 33)) := ⟨rfl, rfl, rfl, by decide +kernel, rfl, by decide +kernel, by decide +kernel⟩
def n_law_kind : List Str := ["_law_pool", "_law_letters_here", "_law_kind_here", "_law_used", "_law_old_here", "_law_turn", "_law_pairs", "_law_k"]
def f_law_kind : String → Bool := fun x => ["_law_draw", "_law_old", "_law_word"].contains x
def ps_law_kind : String → String → Bool := fun _ _ => false
def ms_law_kind : String → String → Bool := fun _ _ => false
def it_law_kind : String → String → Bool := fun _ _ => false
theorem c_law_kind : okSs ⟨n_law_kind, (L2.defScope (topS PySem.Challenge.pw_replacelists_k14_whole_reading_is_the_re 36)).names, fun _ => true, f_law_kind, gsL, ps_law_kind, ms_law_kind, it_law_kind⟩ d_law_kind.body (L2.defBody (topS PySem.Challenge.pw_replacelists_k14_whole_reading_is_the_re 36)) = true := by decide +kernel
theorem s_law_kind : L2.FnScope n_law_kind ["_law_pool", "_law_letters_here"] (L2.defScope (topS PySem.Challenge.pw_replacelists_k14_whole_reading_is_the_re 36)) := ⟨rfl, rfl, rfl, by decide +kernel, rfl, by decide +kernel, by decide +kernel⟩
def n_law_step : List Str := ["_law_pool", "_law_letters_here", "_law_kind_here", "_law_old_here", "_law_many", "_law_turn", "_law_pairs", "_law_k", "_law_image"]
def f_law_step : String → Bool := fun x => ["_law_draw", "_law_word"].contains x
def ps_law_step : String → String → Bool := fun _ _ => false
def ms_law_step : String → String → Bool := fun _ _ => false
def it_law_step : String → String → Bool := fun _ _ => false
theorem c_law_step : okSs ⟨n_law_step, (L2.defScope (topS PySem.Challenge.pw_replacelists_k14_whole_reading_is_the_re 34)).names, fun _ => true, f_law_step, gsL, ps_law_step, ms_law_step, it_law_step⟩ d_law_step.body (L2.defBody (topS PySem.Challenge.pw_replacelists_k14_whole_reading_is_the_re 34)) = true := by decide +kernel
theorem s_law_step : L2.FnScope n_law_step ["_law_pool", "_law_letters_here"] (L2.defScope (topS PySem.Challenge.pw_replacelists_k14_whole_reading_is_the_re 34)) := ⟨rfl, rfl, rfl, by decide +kernel, rfl, by decide +kernel, by decide +kernel⟩
def n_law_list : List Str := ["_law_pool", "_law_letters_here", "_law_limit", "_law_k"]
def f_law_list : String → Bool := fun x => ["_law_draw", "_law_step"].contains x
def ps_law_list : String → String → Bool := fun _ _ => false
def ms_law_list : String → String → Bool := fun _ _ => false
def it_law_list : String → String → Bool := fun _ _ => false
theorem c_law_list : okSs ⟨n_law_list, (L2.defScope (topS PySem.Challenge.pw_replacelists_k14_whole_reading_is_the_re 35)).names, fun _ => true, f_law_list, gsL, ps_law_list, ms_law_list, it_law_list⟩ d_law_list.body (L2.defBody (topS PySem.Challenge.pw_replacelists_k14_whole_reading_is_the_re 35)) = true := by decide +kernel
theorem s_law_list : L2.FnScope n_law_list ["_law_pool", "_law_letters_here", "_law_limit"] (L2.defScope (topS PySem.Challenge.pw_replacelists_k14_whole_reading_is_the_re 35)) := ⟨rfl, rfl, rfl, by decide +kernel, rfl, by decide +kernel, by decide +kernel⟩
def n_law_any : List Str := ["_law_pool", "_law_letters_here", "_law_steps"]
def f_law_any : String → Bool := fun x => ["_law_draw", "_law_kind", "_law_list", "_law_step"].contains x
def ps_law_any : String → String → Bool := fun _ _ => false
def ms_law_any : String → String → Bool := fun _ _ => false
def it_law_any : String → String → Bool := fun _ _ => false
theorem c_law_any : okSs ⟨n_law_any, (L2.defScope (topS PySem.Challenge.pw_replacelists_k14_whole_reading_is_the_re 37)).names, fun _ => true, f_law_any, gsL, ps_law_any, ms_law_any, it_law_any⟩ d_law_any.body (L2.defBody (topS PySem.Challenge.pw_replacelists_k14_whole_reading_is_the_re 37)) = true := by decide +kernel
theorem s_law_any : L2.FnScope n_law_any ["_law_pool", "_law_letters_here"] (L2.defScope (topS PySem.Challenge.pw_replacelists_k14_whole_reading_is_the_re 37)) := ⟨rfl, rfl, rfl, by decide +kernel, rfl, by decide +kernel, by decide +kernel⟩
def n_law_char : List Str := ["_law_number", "_law_chars"]
def f_law_char : String → Bool := fun _ => false
def ps_law_char : String → String → Bool := fun _ _ => false
def ms_law_char : String → String → Bool := fun _ _ => false
def it_law_char : String → String → Bool := fun _ _ => false
theorem c_law_char : okSs ⟨n_law_char, (L2.defScope (topS PySem.Challenge.pw_replacelists_k14_whole_reading_is_the_re 30)).names, fun _ => true, f_law_char, gsL, ps_law_char, ms_law_char, it_law_char⟩ d_law_char.body (L2.defBody (topS PySem.Challenge.pw_replacelists_k14_whole_reading_is_the_re 30)) = true := by decide +kernel
theorem s_law_char : L2.FnScope n_law_char ["_law_number"] (L2.defScope (topS PySem.Challenge.pw_replacelists_k14_whole_reading_is_the_re 30)) := ⟨rfl, rfl, rfl, by decide +kernel, rfl, by decide +kernel, by decide +kernel⟩
def n_law_letters : List Str := ["_law_pool", "_law_many", "_law_numbers", "_law_k", "_law_number", "_law_other"]
def f_law_letters : String → Bool := fun x => ["_law_char", "_law_draw"].contains x
def ps_law_letters : String → String → Bool := fun _ _ => false
def ms_law_letters : String → String → Bool := fun _ _ => false
def it_law_letters : String → String → Bool := fun _ _ => false
theorem c_law_letters : okSs ⟨n_law_letters, (L2.defScope (topS PySem.Challenge.pw_replacelists_k14_whole_reading_is_the_re 31)).names, fun _ => true, f_law_letters, gsL, ps_law_letters, ms_law_letters, it_law_letters⟩ d_law_letters.body (L2.defBody (topS PySem.Challenge.pw_replacelists_k14_whole_reading_is_the_re 31)) = true := by decide +kernel
theorem s_law_letters : L2.FnScope n_law_letters ["_law_pool", "_law_many"] (L2.defScope (topS PySem.Challenge.pw_replacelists_k14_whole_reading_is_the_re 31)) := ⟨rfl, rfl, rfl, by decide +kernel, rfl, by decide +kernel, by decide +kernel⟩
def n_law_parts : List Str := ["_law_letters_here", "_law_steps", "_law_step_here"]
def f_law_parts : String → Bool := fun _ => false
def ps_law_parts : String → String → Bool := fun _ _ => false
def ms_law_parts : String → String → Bool := fun _ _ => false
def it_law_parts : String → String → Bool := fun _ _ => false
theorem c_law_parts : okSs ⟨n_law_parts, (L2.defScope (topS PySem.Challenge.pw_replacelists_k14_whole_reading_is_the_re 39)).names, fun _ => true, f_law_parts, gsL, ps_law_parts, ms_law_parts, it_law_parts⟩ d_law_parts.body (L2.defBody (topS PySem.Challenge.pw_replacelists_k14_whole_reading_is_the_re 39)) = true := by decide +kernel
theorem s_law_parts : L2.FnScope n_law_parts ["_law_letters_here", "_law_steps"] (L2.defScope (topS PySem.Challenge.pw_replacelists_k14_whole_reading_is_the_re 39)) := ⟨rfl, rfl, rfl, by decide +kernel, rfl, by decide +kernel, by decide +kernel⟩
def n_law_mapped : List Str := ["_law_pairs", "_law_text_here", "_law_out", "_law_current", "_law_image", "_law_pair"]
def f_law_mapped : String → Bool := fun _ => false
def ps_law_mapped : String → String → Bool := fun _ _ => false
def ms_law_mapped : String → String → Bool := fun _ _ => false
def it_law_mapped : String → String → Bool := fun _ _ => false
theorem c_law_mapped : okSs ⟨n_law_mapped, (L2.defScope (topS PySem.Challenge.pw_replacelists_k14_whole_reading_is_the_re 41)).names, fun _ => true, f_law_mapped, gsL, ps_law_mapped, ms_law_mapped, it_law_mapped⟩ d_law_mapped.body (L2.defBody (topS PySem.Challenge.pw_replacelists_k14_whole_reading_is_the_re 41)) = true := by decide +kernel
theorem s_law_mapped : L2.FnScope n_law_mapped ["_law_pairs", "_law_text_here"] (L2.defScope (topS PySem.Challenge.pw_replacelists_k14_whole_reading_is_the_re 41)) := ⟨rfl, rfl, rfl, by decide +kernel, rfl, by decide +kernel, by decide +kernel⟩
def n_law_squeezed : List Str := ["_law_char_here", "_law_text_here", "_law_out", "_law_current"]
def f_law_squeezed : String → Bool := fun _ => false
def ps_law_squeezed : String → String → Bool := fun _ _ => false
def ms_law_squeezed : String → String → Bool := fun _ _ => false
def it_law_squeezed : String → String → Bool := fun _ _ => false
theorem c_law_squeezed : okSs ⟨n_law_squeezed, (L2.defScope (topS PySem.Challenge.pw_replacelists_k14_whole_reading_is_the_re 40)).names, fun _ => true, f_law_squeezed, gsL, ps_law_squeezed, ms_law_squeezed, it_law_squeezed⟩ d_law_squeezed.body (L2.defBody (topS PySem.Challenge.pw_replacelists_k14_whole_reading_is_the_re 40)) = true := by decide +kernel
theorem s_law_squeezed : L2.FnScope n_law_squeezed ["_law_char_here", "_law_text_here"] (L2.defScope (topS PySem.Challenge.pw_replacelists_k14_whole_reading_is_the_re 40)) := ⟨rfl, rfl, rfl, by decide +kernel, rfl, by decide +kernel, by decide +kernel⟩
def n_law_run : List Str := ["_law_steps", "_law_text_here", "_law_step_here"]
def f_law_run : String → Bool := fun x => ["_law_mapped", "_law_squeezed"].contains x
def ps_law_run : String → String → Bool := fun _ _ => false
def ms_law_run : String → String → Bool := fun _ _ => false
def it_law_run : String → String → Bool := fun _ _ => false
theorem c_law_run : okSs ⟨n_law_run, (L2.defScope (topS PySem.Challenge.pw_replacelists_k14_whole_reading_is_the_re 42)).names, fun _ => true, f_law_run, gsL, ps_law_run, ms_law_run, it_law_run⟩ d_law_run.body (L2.defBody (topS PySem.Challenge.pw_replacelists_k14_whole_reading_is_the_re 42)) = true := by decide +kernel
theorem s_law_run : L2.FnScope n_law_run ["_law_steps", "_law_text_here"] (L2.defScope (topS PySem.Challenge.pw_replacelists_k14_whole_reading_is_the_re 42)) := ⟨rfl, rfl, rfl, by decide +kernel, rfl, by decide +kernel, by decide +kernel⟩
def n_law_text : List Str := ["_law_pool", "_law_parts_here", "_law_size", "_law_k"]
def f_law_text : String → Bool := fun x => ["_law_draw"].contains x
def ps_law_text : String → String → Bool := fun _ _ => false
def ms_law_text : String → String → Bool := fun _ _ => false
def it_law_text : String → String → Bool := fun _ _ => false
theorem c_law_text : okSs ⟨n_law_text, (L2.defScope (topS PySem.Challenge.pw_replacelists_k14_whole_reading_is_the_re 38)).names, fun _ => true, f_law_text, gsL, ps_law_text, ms_law_text, it_law_text⟩ d_law_word.body (L2.defBody (topS PySem.Challenge.pw_replacelists_k14_whole_reading_is_the_re 38)) = true := by decide +kernel
theorem s_law_text : L2.FnScope n_law_text ["_law_pool", "_law_parts_here", "_law_size"] (L2.defScope (topS PySem.Challenge.pw_replacelists_k14_whole_reading_is_the_re 38)) := ⟨rfl, rfl, rfl, by decide +kernel, rfl, by decide +kernel, by decide +kernel⟩
def nread_old : List Str := ["old", "new", "text", "at"]
def fread_old : String → Bool := fun _ => false
def psread_old : String → String → Bool := fun _ _ => false
def msread_old : String → String → Bool := fun _ _ => false
def itread_old : String → String → Bool := fun _ _ => false
theorem cread_old : okSs ⟨nread_old, (L2.defScope (topS PySem.Challenge.pw_replacelists_k14_whole_reading_is_the_re 2)).names, fun _ => true, fread_old, gsL, psread_old, msread_old, itread_old⟩ dread_old.body (L2.defBody (topS PySem.Challenge.pw_replacelists_k14_whole_reading_is_the_re 2)) = true := by decide +kernel
theorem sread_old : L2.FnScope nread_old ["old", "new", "text"] (L2.defScope (topS PySem.Challenge.pw_replacelists_k14_whole_reading_is_the_re 2)) := ⟨rfl, rfl, rfl, by decide +kernel, rfl, by decide +kernel, by decide +kernel⟩
def nread_char : List Str := ["step", "held", "char", "old", "new", "own", "pairs"]
def fread_char : String → Bool := fun x => ["read_old"].contains x
def psread_char : String → String → Bool := fun _ _ => false
def msread_char : String → String → Bool := fun _ _ => false
def itread_char : String → String → Bool := fun _ _ => false
theorem cread_char : okSs ⟨nread_char, (L2.defScope (topS PySem.Challenge.pw_replacelists_k14_whole_reading_is_the_re 3)).names, fun _ => true, fread_char, gsL, psread_char, msread_char, itread_char⟩ dread_char.body (L2.defBody (topS PySem.Challenge.pw_replacelists_k14_whole_reading_is_the_re 3)) = true := by decide +kernel
theorem sread_char : L2.FnScope nread_char ["step", "held", "char"] (L2.defScope (topS PySem.Challenge.pw_replacelists_k14_whole_reading_is_the_re 3)) := ⟨rfl, rfl, rfl, by decide +kernel, rfl, by decide +kernel, by decide +kernel⟩
def nread_text : List Str := ["step", "held", "text", "emitted", "char", "part"]
def fread_text : String → Bool := fun x => ["read_char"].contains x
def psread_text : String → String → Bool := fun _ _ => false
def msread_text : String → String → Bool := fun _ _ => false
def itread_text : String → String → Bool := fun _ _ => false
theorem cread_text : okSs ⟨nread_text, (L2.defScope (topS PySem.Challenge.pw_replacelists_k14_whole_reading_is_the_re 4)).names, fun _ => true, fread_text, gsL, psread_text, msread_text, itread_text⟩ dread_text.body (L2.defBody (topS PySem.Challenge.pw_replacelists_k14_whole_reading_is_the_re 4)) = true := by decide +kernel
theorem sread_text : L2.FnScope nread_text ["step", "held", "text"] (L2.defScope (topS PySem.Challenge.pw_replacelists_k14_whole_reading_is_the_re 4)) := ⟨rfl, rfl, rfl, by decide +kernel, rfl, by decide +kernel, by decide +kernel⟩
def nadvance : List Str := ["steps", "held", "text", "after", "step", "kept"]
def fadvance : String → Bool := fun x => ["read_text"].contains x
def psadvance : String → String → Bool := fun _ _ => false
def msadvance : String → String → Bool := fun _ _ => false
def itadvance : String → String → Bool := fun c f => [("Steps", "listed")].contains (c, f)
theorem cadvance : okSs ⟨nadvance, (L2.defScope (topS PySem.Challenge.pw_replacelists_k14_whole_reading_is_the_re 7)).names, fun _ => true, fadvance, gsL, psadvance, msadvance, itadvance⟩ dadvance.body (L2.defBody (topS PySem.Challenge.pw_replacelists_k14_whole_reading_is_the_re 7)) = true := by decide +kernel
theorem sadvance : L2.FnScope nadvance ["steps", "held", "text"] (L2.defScope (topS PySem.Challenge.pw_replacelists_k14_whole_reading_is_the_re 7)) := ⟨rfl, rfl, rfl, by decide +kernel, rfl, by decide +kernel, by decide +kernel⟩
def nfinish : List Str := ["steps", "held", "text", "step", "kept", "emitted"]
def ffinish : String → Bool := fun x => ["read_text"].contains x
def psfinish : String → String → Bool := fun _ _ => false
def msfinish : String → String → Bool := fun _ _ => false
def itfinish : String → String → Bool := fun c f => [("Steps", "listed")].contains (c, f)
theorem cfinish : okSs ⟨nfinish, (L2.defScope (topS PySem.Challenge.pw_replacelists_k14_whole_reading_is_the_re 8)).names, fun _ => true, ffinish, gsL, psfinish, msfinish, itfinish⟩ dfinish.body (L2.defBody (topS PySem.Challenge.pw_replacelists_k14_whole_reading_is_the_re 8)) = true := by decide +kernel
theorem sfinish : L2.FnScope nfinish ["steps", "held"] (L2.defScope (topS PySem.Challenge.pw_replacelists_k14_whole_reading_is_the_re 8)) := ⟨rfl, rfl, rfl, by decide +kernel, rfl, by decide +kernel, by decide +kernel⟩
def nSteps_o___len__ : List Str := ["self"]
def fSteps_o___len__ : String → Bool := fun _ => false
def psSteps_o___len__ : String → String → Bool := fun _ _ => false
def msSteps_o___len__ : String → String → Bool := fun _ _ => false
def itSteps_o___len__ : String → String → Bool := fun _ _ => false
theorem cSteps_o___len__ : okSs ⟨nSteps_o___len__, (L2.defScope (clsS (topS PySem.Challenge.pw_replacelists_k14_whole_reading_is_the_re 27) 9)).names, fun _ => true, fSteps_o___len__, gsL, psSteps_o___len__, msSteps_o___len__, itSteps_o___len__⟩ dSteps_o___len__.body (L2.defBody (clsS (topS PySem.Challenge.pw_replacelists_k14_whole_reading_is_the_re 27) 9)) = true := by decide +kernel
theorem sSteps_o___len__ : L2.FnScope nSteps_o___len__ ["self"] (L2.defScope (clsS (topS PySem.Challenge.pw_replacelists_k14_whole_reading_is_the_re 27) 9)) := ⟨rfl, rfl, rfl, by decide +kernel, rfl, by decide +kernel, by decide +kernel⟩
def nstart : List Str := ["steps"]
def fstart : String → Bool := fun _ => false
def psstart : String → String → Bool := fun _ _ => false
def msstart : String → String → Bool := fun c f => [("Steps", "__len__")].contains (c, f)
def itstart : String → String → Bool := fun _ _ => false
theorem cstart : okSs ⟨nstart, (L2.defScope (topS PySem.Challenge.pw_replacelists_k14_whole_reading_is_the_re 6)).names, fun _ => true, fstart, gsL, psstart, msstart, itstart⟩ dstart.body (L2.defBody (topS PySem.Challenge.pw_replacelists_k14_whole_reading_is_the_re 6)) = true := by decide +kernel
theorem sstart : L2.FnScope nstart ["steps"] (L2.defScope (topS PySem.Challenge.pw_replacelists_k14_whole_reading_is_the_re 6)) := ⟨rfl, rfl, rfl, by decide +kernel, rfl, by decide +kernel, by decide +kernel⟩
def nlaw : List Str := ["_law_script", "_law_pool", "_law_letters_here", "_law_steps", "_law_text_here", "_law_made", "_law_held", "_law_emitted", "_law_k", "_law_answer"]
def flaw : String → Bool := fun x => ["Steps", "_law_any", "_law_draw", "_law_letters", "_law_parts", "_law_run", "_law_text", "advance", "finish", "start"].contains x
def pslaw : String → String → Bool := fun _ _ => false
def mslaw : String → String → Bool := fun c f => [("Steps", "__call__")].contains (c, f)
def itlaw : String → String → Bool := fun _ _ => false
theorem claw : okSs ⟨nlaw, (L2.defScope (topS PySem.Challenge.pw_replacelists_k14_whole_reading_is_the_re 43)).names, fun _ => true, flaw, gsL, pslaw, mslaw, itlaw⟩ dlaw.body (L2.defBody (topS PySem.Challenge.pw_replacelists_k14_whole_reading_is_the_re 43)) = true := by decide +kernel
theorem slaw : L2.FnScope nlaw ["_law_script"] (L2.defScope (topS PySem.Challenge.pw_replacelists_k14_whole_reading_is_the_re 43)) := ⟨rfl, rfl, rfl, by decide +kernel, rfl, by decide +kernel, by decide +kernel⟩
theorem all_mk {w : World} {K : PySem.W.Frag} {s₁ : Shared} {mg mb : Str → Option Value} {fa a : Addr} {vs : List Value} {ns : List Int} (KX : K.In s₁.heap) (hns : s₁.heap.Ns mainGlobals mg) (hfa : mg "law" = some (.ref fa)) (hb : s₁.heap.Ns builtinsNs mb) (hbb : ∀ x : Str, x ≠ "__name__" → mb x = bootBuiltins x) (hlim : s₁.heap.NoLimit) (hg : s₁.gens = #[])
    (ha : s₁.heap.get? a = some { cls := .type "list", data := .seq vs.toArray }) (hi : IntsAre vs ns) (hln : ns.length ≤ 63)
    {KSteps : Addr}
    (aKSteps : PySem.W.nsIn K mainGlobals "Steps" = some (some (.ref KSteps)))
    (pgKSteps : PySem.W.plainGet K KSteps Str.empty = true)
    (hdKSteps : PySem.W.hasDictIn K KSteps = true)
    (poKSteps : PySem.W.plainOver K KSteps = true)
    (saKSteps : PySem.W.findIn K (.ref KSteps) "__setattr__" = some (some (.builtin "object.__setattr__")))
    (mkKSteps : PySem.W.makesIn K KSteps = true)
    (kcKSteps : PySem.W.keepIn K (.ref KSteps) = true)
    (noKSteps_listed : PySem.W.findIn K (.ref KSteps) "listed" = some none)
    (noKSteps_total : PySem.W.findIn K (.ref KSteps) "total" = some none)
    {f18 : Addr} {od18 an18 : Option Addr} {sl18 : Array (Option Value)} {oc18 kV18 dc18 pm18 cd18 ct18 : Value}
    (a18 : PySem.W.nsIn K mainGlobals "is_map" = some (some (.ref f18)))
    (l18 : K.lookup f18 = some ⟨oc18, od18, .func (PySem.W.fnOf "is_map" "is_map" (L2.defArgs (topS PySem.Challenge.pw_replacelists_k14_whole_reading_is_the_re 18)) (L2.defBody (topS PySem.Challenge.pw_replacelists_k14_whole_reading_is_the_re 18)) (L2.defScope (topS PySem.Challenge.pw_replacelists_k14_whole_reading_is_the_re 18)) .none kV18 dc18 pm18 an18 cd18 ct18), sl18⟩)
    (c18 : PySem.W.codeIn K cd18 "is_map" = true)
    (k18 : PySem.W.keepIn K (.ref f18) = true)
    {f19 : Addr} {od19 an19 : Option Addr} {sl19 : Array (Option Value)} {oc19 kV19 dc19 pm19 cd19 ct19 : Value}
    (a19 : PySem.W.nsIn K mainGlobals "is_step" = some (some (.ref f19)))
    (l19 : K.lookup f19 = some ⟨oc19, od19, .func (PySem.W.fnOf "is_step" "is_step" (L2.defArgs (topS PySem.Challenge.pw_replacelists_k14_whole_reading_is_the_re 19)) (L2.defBody (topS PySem.Challenge.pw_replacelists_k14_whole_reading_is_the_re 19)) (L2.defScope (topS PySem.Challenge.pw_replacelists_k14_whole_reading_is_the_re 19)) .none kV19 dc19 pm19 an19 cd19 ct19), sl19⟩)
    (c19 : PySem.W.codeIn K cd19 "is_step" = true)
    (k19 : PySem.W.keepIn K (.ref f19) = true)
    {f20 : Addr} {od20 an20 : Option Addr} {sl20 : Array (Option Value)} {oc20 kV20 dc20 pm20 cd20 ct20 : Value}
    (a20 : PySem.W.nsIn K mainGlobals "step_growth" = some (some (.ref f20)))
    (l20 : K.lookup f20 = some ⟨oc20, od20, .func (PySem.W.fnOf "step_growth" "step_growth" (L2.defArgs (topS PySem.Challenge.pw_replacelists_k14_whole_reading_is_the_re 20)) (L2.defBody (topS PySem.Challenge.pw_replacelists_k14_whole_reading_is_the_re 20)) (L2.defScope (topS PySem.Challenge.pw_replacelists_k14_whole_reading_is_the_re 20)) .none kV20 dc20 pm20 an20 cd20 ct20), sl20⟩)
    (c20 : PySem.W.codeIn K cd20 "step_growth" = true)
    (k20 : PySem.W.keepIn K (.ref f20) = true)
    {f27_0 : Addr} {od27_0 an27_0 : Option Addr} {sl27_0 : Array (Option Value)} {oc27_0 kV27_0 dc27_0 pm27_0 cd27_0 ct27_0 : Value}
    (a27_0 : PySem.W.findIn K (.ref KSteps) "__init__" = some (some (.ref f27_0)))
    (l27_0 : K.lookup f27_0 = some ⟨oc27_0, od27_0, .func (PySem.W.fnOf "__init__" "Steps.__init__" (L2.defArgs (clsS (topS PySem.Challenge.pw_replacelists_k14_whole_reading_is_the_re 27) 0)) (L2.defBody (clsS (topS PySem.Challenge.pw_replacelists_k14_whole_reading_is_the_re 27) 0)) (L2.defScope (clsS (topS PySem.Challenge.pw_replacelists_k14_whole_reading_is_the_re 27) 0)) .none kV27_0 dc27_0 pm27_0 an27_0 cd27_0 ct27_0), sl27_0⟩)
    (c27_0 : PySem.W.codeIn K cd27_0 "Steps.__init__" = true)
    (k27_0 : PySem.W.keepIn K (.ref f27_0) = true)
    (i27_0 : PySem.W.isFn K (.ref f27_0) = true)
    (w27_0 : PySem.W.fnIn K f27_0 = true)
    {f22 : Addr} {od22 an22 : Option Addr} {sl22 : Array (Option Value)} {oc22 kV22 dc22 pm22 cd22 ct22 : Value}
    (a22 : PySem.W.nsIn K mainGlobals "mapped" = some (some (.ref f22)))
    (l22 : K.lookup f22 = some ⟨oc22, od22, .func (PySem.W.fnOf "mapped" "mapped" (L2.defArgs (topS PySem.Challenge.pw_replacelists_k14_whole_reading_is_the_re 22)) (L2.defBody (topS PySem.Challenge.pw_replacelists_k14_whole_reading_is_the_re 22)) (L2.defScope (topS PySem.Challenge.pw_replacelists_k14_whole_reading_is_the_re 22)) .none kV22 dc22 pm22 an22 cd22 ct22), sl22⟩)
    (c22 : PySem.W.codeIn K cd22 "mapped" = true)
    (k22 : PySem.W.keepIn K (.ref f22) = true)
    {f21 : Addr} {od21 an21 : Option Addr} {sl21 : Array (Option Value)} {oc21 kV21 dc21 pm21 cd21 ct21 : Value}
    (a21 : PySem.W.nsIn K mainGlobals "squeezed" = some (some (.ref f21)))
    (l21 : K.lookup f21 = some ⟨oc21, od21, .func (PySem.W.fnOf "squeezed" "squeezed" (L2.defArgs (topS PySem.Challenge.pw_replacelists_k14_whole_reading_is_the_re 21)) (L2.defBody (topS PySem.Challenge.pw_replacelists_k14_whole_reading_is_the_re 21)) (L2.defScope (topS PySem.Challenge.pw_replacelists_k14_whole_reading_is_the_re 21)) .none kV21 dc21 pm21 an21 cd21 ct21), sl21⟩)
    (c21 : PySem.W.codeIn K cd21 "squeezed" = true)
    (k21 : PySem.W.keepIn K (.ref f21) = true)
    {f23 : Addr} {od23 an23 : Option Addr} {sl23 : Array (Option Value)} {oc23 kV23 dc23 pm23 cd23 ct23 : Value}
    (a23 : PySem.W.nsIn K mainGlobals "run_step" = some (some (.ref f23)))
    (l23 : K.lookup f23 = some ⟨oc23, od23, .func (PySem.W.fnOf "run_step" "run_step" (L2.defArgs (topS PySem.Challenge.pw_replacelists_k14_whole_reading_is_the_re 23)) (L2.defBody (topS PySem.Challenge.pw_replacelists_k14_whole_reading_is_the_re 23)) (L2.defScope (topS PySem.Challenge.pw_replacelists_k14_whole_reading_is_the_re 23)) .none kV23 dc23 pm23 an23 cd23 ct23), sl23⟩)
    (c23 : PySem.W.codeIn K cd23 "run_step" = true)
    (k23 : PySem.W.keepIn K (.ref f23) = true)
    {f27_2 : Addr} {od27_2 an27_2 : Option Addr} {sl27_2 : Array (Option Value)} {oc27_2 kV27_2 dc27_2 pm27_2 cd27_2 ct27_2 : Value}
    (a27_2 : PySem.W.findIn K (.ref KSteps) "__call__" = some (some (.ref f27_2)))
    (l27_2 : K.lookup f27_2 = some ⟨oc27_2, od27_2, .func (PySem.W.fnOf "__call__" "Steps.__call__" (L2.defArgs (clsS (topS PySem.Challenge.pw_replacelists_k14_whole_reading_is_the_re 27) 2)) (L2.defBody (clsS (topS PySem.Challenge.pw_replacelists_k14_whole_reading_is_the_re 27) 2)) (L2.defScope (clsS (topS PySem.Challenge.pw_replacelists_k14_whole_reading_is_the_re 27) 2)) .none kV27_2 dc27_2 pm27_2 an27_2 cd27_2 ct27_2), sl27_2⟩)
    (c27_2 : PySem.W.codeIn K cd27_2 "Steps.__call__" = true)
    (k27_2 : PySem.W.keepIn K (.ref f27_2) = true)
    (i27_2 : PySem.W.isFn K (.ref f27_2) = true)
    (w27_2 : PySem.W.fnIn K f27_2 = true)
    {f29 : Addr} {od29 an29 : Option Addr} {sl29 : Array (Option Value)} {oc29 kV29 dc29 pm29 cd29 ct29 : Value}
    (a29 : PySem.W.nsIn K mainGlobals "_law_draw" = some (some (.ref f29)))
    (l29 : K.lookup f29 = some ⟨oc29, od29, .func (PySem.W.fnOf "_law_draw" "_law_draw" (L2.defArgs (topS PySem.Challenge.pw_replacelists_k14_whole_reading_is_the_re 29)) (L2.defBody (topS PySem.Challenge.pw_replacelists_k14_whole_reading_is_the_re 29)) (L2.defScope (topS PySem.Challenge.pw_replacelists_k14_whole_reading_is_the_re 29)) .none kV29 dc29 pm29 an29 cd29 ct29), sl29⟩)
    (c29 : PySem.W.codeIn K cd29 "_law_draw" = true)
    (k29 : PySem.W.keepIn K (.ref f29) = true)
    {f32 : Addr} {od32 an32 : Option Addr} {sl32 : Array (Option Value)} {oc32 kV32 dc32 pm32 cd32 ct32 : Value}
    (a32 : PySem.W.nsIn K mainGlobals "_law_word" = some (some (.ref f32)))
    (l32 : K.lookup f32 = some ⟨oc32, od32, .func (PySem.W.fnOf "_law_word" "_law_word" (L2.defArgs (topS PySem.Challenge.pw_replacelists_k14_whole_reading_is_the_re 32)) (L2.defBody (topS PySem.Challenge.pw_replacelists_k14_whole_reading_is_the_re 32)) (L2.defScope (topS PySem.Challenge.pw_replacelists_k14_whole_reading_is_the_re 32)) .none kV32 dc32 pm32 an32 cd32 ct32), sl32⟩)
    (c32 : PySem.W.codeIn K cd32 "_law_word" = true)
    (k32 : PySem.W.keepIn K (.ref f32) = true)
    {f33 : Addr} {od33 an33 : Option Addr} {sl33 : Array (Option Value)} {oc33 kV33 dc33 pm33 cd33 ct33 : Value}
    (a33 : PySem.W.nsIn K mainGlobals "_law_old" = some (some (.ref f33)))
    (l33 : K.lookup f33 = some ⟨oc33, od33, .func (PySem.W.fnOf "_law_old" "_law_old" (L2.defArgs (topS PySem.Challenge.pw_replacelists_k14_whole_reading_is_the_re 33)) (L2.defBody (topS PySem.Challenge.pw_replacelists_k14_whole_reading_is_the_re 33)) (L2.defScope (topS PySem.Challenge.pw_replacelists_k14_whole_reading_is_the_re 33)) .none kV33 dc33 pm33 an33 cd33 ct33), sl33⟩)
    (c33 : PySem.W.codeIn K cd33 "_law_old" = true)
    (k33 : PySem.W.keepIn K (.ref f33) = true)
    {f36 : Addr} {od36 an36 : Option Addr} {sl36 : Array (Option Value)} {oc36 kV36 dc36 pm36 cd36 ct36 : Value}
    (a36 : PySem.W.nsIn K mainGlobals "_law_kind" = some (some (.ref f36)))
    (l36 : K.lookup f36 = some ⟨oc36, od36, .func (PySem.W.fnOf "_law_kind" "_law_kind" (L2.defArgs (topS PySem.Challenge.pw_replacelists_k14_whole_reading_is_the_re 36)) (L2.defBody (topS PySem.Challenge.pw_replacelists_k14_whole_reading_is_the_re 36)) (L2.defScope (topS PySem.Challenge.pw_replacelists_k14_whole_reading_is_the_re 36)) .none kV36 dc36 pm36 an36 cd36 ct36), sl36⟩)
    (c36 : PySem.W.codeIn K cd36 "_law_kind" = true)
    (k36 : PySem.W.keepIn K (.ref f36) = true)
    {f34 : Addr} {od34 an34 : Option Addr} {sl34 : Array (Option Value)} {oc34 kV34 dc34 pm34 cd34 ct34 : Value}
    (a34 : PySem.W.nsIn K mainGlobals "_law_step" = some (some (.ref f34)))
    (l34 : K.lookup f34 = some ⟨oc34, od34, .func (PySem.W.fnOf "_law_step" "_law_step" (L2.defArgs (topS PySem.Challenge.pw_replacelists_k14_whole_reading_is_the_re 34)) (L2.defBody (topS PySem.Challenge.pw_replacelists_k14_whole_reading_is_the_re 34)) (L2.defScope (topS PySem.Challenge.pw_replacelists_k14_whole_reading_is_the_re 34)) .none kV34 dc34 pm34 an34 cd34 ct34), sl34⟩)
    (c34 : PySem.W.codeIn K cd34 "_law_step" = true)
    (k34 : PySem.W.keepIn K (.ref f34) = true)
    {f35 : Addr} {od35 an35 : Option Addr} {sl35 : Array (Option Value)} {oc35 kV35 dc35 pm35 cd35 ct35 : Value}
    (a35 : PySem.W.nsIn K mainGlobals "_law_list" = some (some (.ref f35)))
    (l35 : K.lookup f35 = some ⟨oc35, od35, .func (PySem.W.fnOf "_law_list" "_law_list" (L2.defArgs (topS PySem.Challenge.pw_replacelists_k14_whole_reading_is_the_re 35)) (L2.defBody (topS PySem.Challenge.pw_replacelists_k14_whole_reading_is_the_re 35)) (L2.defScope (topS PySem.Challenge.pw_replacelists_k14_whole_reading_is_the_re 35)) .none kV35 dc35 pm35 an35 cd35 ct35), sl35⟩)
    (c35 : PySem.W.codeIn K cd35 "_law_list" = true)
    (k35 : PySem.W.keepIn K (.ref f35) = true)
    {f37 : Addr} {od37 an37 : Option Addr} {sl37 : Array (Option Value)} {oc37 kV37 dc37 pm37 cd37 ct37 : Value}
    (a37 : PySem.W.nsIn K mainGlobals "_law_any" = some (some (.ref f37)))
    (l37 : K.lookup f37 = some ⟨oc37, od37, .func (PySem.W.fnOf "_law_any" "_law_any" (L2.defArgs (topS PySem.Challenge.pw_replacelists_k14_whole_reading_is_the_re 37)) (L2.defBody (topS PySem.Challenge.pw_replacelists_k14_whole_reading_is_the_re 37)) (L2.defScope (topS PySem.Challenge.pw_replacelists_k14_whole_reading_is_the_re 37)) .none kV37 dc37 pm37 an37 cd37 ct37), sl37⟩)
    (c37 : PySem.W.codeIn K cd37 "_law_any" = true)
    (k37 : PySem.W.keepIn K (.ref f37) = true)
    {f30 : Addr} {od30 an30 : Option Addr} {sl30 : Array (Option Value)} {oc30 kV30 dc30 pm30 cd30 ct30 : Value}
    (a30 : PySem.W.nsIn K mainGlobals "_law_char" = some (some (.ref f30)))
    (l30 : K.lookup f30 = some ⟨oc30, od30, .func (PySem.W.fnOf "_law_char" "_law_char" (L2.defArgs (topS PySem.Challenge.pw_replacelists_k14_whole_reading_is_the_re 30)) (L2.defBody (topS PySem.Challenge.pw_replacelists_k14_whole_reading_is_the_re 30)) (L2.defScope (topS PySem.Challenge.pw_replacelists_k14_whole_reading_is_the_re 30)) .none kV30 dc30 pm30 an30 cd30 ct30), sl30⟩)
    (c30 : PySem.W.codeIn K cd30 "_law_char" = true)
    (k30 : PySem.W.keepIn K (.ref f30) = true)
    {f31 : Addr} {od31 an31 : Option Addr} {sl31 : Array (Option Value)} {oc31 kV31 dc31 pm31 cd31 ct31 : Value}
    (a31 : PySem.W.nsIn K mainGlobals "_law_letters" = some (some (.ref f31)))
    (l31 : K.lookup f31 = some ⟨oc31, od31, .func (PySem.W.fnOf "_law_letters" "_law_letters" (L2.defArgs (topS PySem.Challenge.pw_replacelists_k14_whole_reading_is_the_re 31)) (L2.defBody (topS PySem.Challenge.pw_replacelists_k14_whole_reading_is_the_re 31)) (L2.defScope (topS PySem.Challenge.pw_replacelists_k14_whole_reading_is_the_re 31)) .none kV31 dc31 pm31 an31 cd31 ct31), sl31⟩)
    (c31 : PySem.W.codeIn K cd31 "_law_letters" = true)
    (k31 : PySem.W.keepIn K (.ref f31) = true)
    {f39 : Addr} {od39 an39 : Option Addr} {sl39 : Array (Option Value)} {oc39 kV39 dc39 pm39 cd39 ct39 : Value}
    (a39 : PySem.W.nsIn K mainGlobals "_law_parts" = some (some (.ref f39)))
    (l39 : K.lookup f39 = some ⟨oc39, od39, .func (PySem.W.fnOf "_law_parts" "_law_parts" (L2.defArgs (topS PySem.Challenge.pw_replacelists_k14_whole_reading_is_the_re 39)) (L2.defBody (topS PySem.Challenge.pw_replacelists_k14_whole_reading_is_the_re 39)) (L2.defScope (topS PySem.Challenge.pw_replacelists_k14_whole_reading_is_the_re 39)) .none kV39 dc39 pm39 an39 cd39 ct39), sl39⟩)
    (c39 : PySem.W.codeIn K cd39 "_law_parts" = true)
    (k39 : PySem.W.keepIn K (.ref f39) = true)
    {f41 : Addr} {od41 an41 : Option Addr} {sl41 : Array (Option Value)} {oc41 kV41 dc41 pm41 cd41 ct41 : Value}
    (a41 : PySem.W.nsIn K mainGlobals "_law_mapped" = some (some (.ref f41)))
    (l41 : K.lookup f41 = some ⟨oc41, od41, .func (PySem.W.fnOf "_law_mapped" "_law_mapped" (L2.defArgs (topS PySem.Challenge.pw_replacelists_k14_whole_reading_is_the_re 41)) (L2.defBody (topS PySem.Challenge.pw_replacelists_k14_whole_reading_is_the_re 41)) (L2.defScope (topS PySem.Challenge.pw_replacelists_k14_whole_reading_is_the_re 41)) .none kV41 dc41 pm41 an41 cd41 ct41), sl41⟩)
    (c41 : PySem.W.codeIn K cd41 "_law_mapped" = true)
    (k41 : PySem.W.keepIn K (.ref f41) = true)
    {f40 : Addr} {od40 an40 : Option Addr} {sl40 : Array (Option Value)} {oc40 kV40 dc40 pm40 cd40 ct40 : Value}
    (a40 : PySem.W.nsIn K mainGlobals "_law_squeezed" = some (some (.ref f40)))
    (l40 : K.lookup f40 = some ⟨oc40, od40, .func (PySem.W.fnOf "_law_squeezed" "_law_squeezed" (L2.defArgs (topS PySem.Challenge.pw_replacelists_k14_whole_reading_is_the_re 40)) (L2.defBody (topS PySem.Challenge.pw_replacelists_k14_whole_reading_is_the_re 40)) (L2.defScope (topS PySem.Challenge.pw_replacelists_k14_whole_reading_is_the_re 40)) .none kV40 dc40 pm40 an40 cd40 ct40), sl40⟩)
    (c40 : PySem.W.codeIn K cd40 "_law_squeezed" = true)
    (k40 : PySem.W.keepIn K (.ref f40) = true)
    {f42 : Addr} {od42 an42 : Option Addr} {sl42 : Array (Option Value)} {oc42 kV42 dc42 pm42 cd42 ct42 : Value}
    (a42 : PySem.W.nsIn K mainGlobals "_law_run" = some (some (.ref f42)))
    (l42 : K.lookup f42 = some ⟨oc42, od42, .func (PySem.W.fnOf "_law_run" "_law_run" (L2.defArgs (topS PySem.Challenge.pw_replacelists_k14_whole_reading_is_the_re 42)) (L2.defBody (topS PySem.Challenge.pw_replacelists_k14_whole_reading_is_the_re 42)) (L2.defScope (topS PySem.Challenge.pw_replacelists_k14_whole_reading_is_the_re 42)) .none kV42 dc42 pm42 an42 cd42 ct42), sl42⟩)
    (c42 : PySem.W.codeIn K cd42 "_law_run" = true)
    (k42 : PySem.W.keepIn K (.ref f42) = true)
    {f38 : Addr} {od38 an38 : Option Addr} {sl38 : Array (Option Value)} {oc38 kV38 dc38 pm38 cd38 ct38 : Value}
    (a38 : PySem.W.nsIn K mainGlobals "_law_text" = some (some (.ref f38)))
    (l38 : K.lookup f38 = some ⟨oc38, od38, .func (PySem.W.fnOf "_law_text" "_law_text" (L2.defArgs (topS PySem.Challenge.pw_replacelists_k14_whole_reading_is_the_re 38)) (L2.defBody (topS PySem.Challenge.pw_replacelists_k14_whole_reading_is_the_re 38)) (L2.defScope (topS PySem.Challenge.pw_replacelists_k14_whole_reading_is_the_re 38)) .none kV38 dc38 pm38 an38 cd38 ct38), sl38⟩)
    (c38 : PySem.W.codeIn K cd38 "_law_text" = true)
    (k38 : PySem.W.keepIn K (.ref f38) = true)
    {f2 : Addr} {od2 an2 : Option Addr} {sl2 : Array (Option Value)} {oc2 kV2 dc2 pm2 cd2 ct2 : Value}
    (a2 : PySem.W.nsIn K mainGlobals "read_old" = some (some (.ref f2)))
    (l2 : K.lookup f2 = some ⟨oc2, od2, .func (PySem.W.fnOf "read_old" "read_old" (L2.defArgs (topS PySem.Challenge.pw_replacelists_k14_whole_reading_is_the_re 2)) (L2.defBody (topS PySem.Challenge.pw_replacelists_k14_whole_reading_is_the_re 2)) (L2.defScope (topS PySem.Challenge.pw_replacelists_k14_whole_reading_is_the_re 2)) .none kV2 dc2 pm2 an2 cd2 ct2), sl2⟩)
    (c2 : PySem.W.codeIn K cd2 "read_old" = true)
    (k2 : PySem.W.keepIn K (.ref f2) = true)
    {f3 : Addr} {od3 an3 : Option Addr} {sl3 : Array (Option Value)} {oc3 kV3 dc3 pm3 cd3 ct3 : Value}
    (a3 : PySem.W.nsIn K mainGlobals "read_char" = some (some (.ref f3)))
    (l3 : K.lookup f3 = some ⟨oc3, od3, .func (PySem.W.fnOf "read_char" "read_char" (L2.defArgs (topS PySem.Challenge.pw_replacelists_k14_whole_reading_is_the_re 3)) (L2.defBody (topS PySem.Challenge.pw_replacelists_k14_whole_reading_is_the_re 3)) (L2.defScope (topS PySem.Challenge.pw_replacelists_k14_whole_reading_is_the_re 3)) .none kV3 dc3 pm3 an3 cd3 ct3), sl3⟩)
    (c3 : PySem.W.codeIn K cd3 "read_char" = true)
    (k3 : PySem.W.keepIn K (.ref f3) = true)
    {f4 : Addr} {od4 an4 : Option Addr} {sl4 : Array (Option Value)} {oc4 kV4 dc4 pm4 cd4 ct4 : Value}
    (a4 : PySem.W.nsIn K mainGlobals "read_text" = some (some (.ref f4)))
    (l4 : K.lookup f4 = some ⟨oc4, od4, .func (PySem.W.fnOf "read_text" "read_text" (L2.defArgs (topS PySem.Challenge.pw_replacelists_k14_whole_reading_is_the_re 4)) (L2.defBody (topS PySem.Challenge.pw_replacelists_k14_whole_reading_is_the_re 4)) (L2.defScope (topS PySem.Challenge.pw_replacelists_k14_whole_reading_is_the_re 4)) .none kV4 dc4 pm4 an4 cd4 ct4), sl4⟩)
    (c4 : PySem.W.codeIn K cd4 "read_text" = true)
    (k4 : PySem.W.keepIn K (.ref f4) = true)
    {f7 : Addr} {od7 an7 : Option Addr} {sl7 : Array (Option Value)} {oc7 kV7 dc7 pm7 cd7 ct7 : Value}
    (a7 : PySem.W.nsIn K mainGlobals "advance" = some (some (.ref f7)))
    (l7 : K.lookup f7 = some ⟨oc7, od7, .func (PySem.W.fnOf "advance" "advance" (L2.defArgs (topS PySem.Challenge.pw_replacelists_k14_whole_reading_is_the_re 7)) (L2.defBody (topS PySem.Challenge.pw_replacelists_k14_whole_reading_is_the_re 7)) (L2.defScope (topS PySem.Challenge.pw_replacelists_k14_whole_reading_is_the_re 7)) .none kV7 dc7 pm7 an7 cd7 ct7), sl7⟩)
    (c7 : PySem.W.codeIn K cd7 "advance" = true)
    (k7 : PySem.W.keepIn K (.ref f7) = true)
    {f8 : Addr} {od8 an8 : Option Addr} {sl8 : Array (Option Value)} {oc8 kV8 dc8 pm8 cd8 ct8 : Value}
    (a8 : PySem.W.nsIn K mainGlobals "finish" = some (some (.ref f8)))
    (l8 : K.lookup f8 = some ⟨oc8, od8, .func (PySem.W.fnOf "finish" "finish" (L2.defArgs (topS PySem.Challenge.pw_replacelists_k14_whole_reading_is_the_re 8)) (L2.defBody (topS PySem.Challenge.pw_replacelists_k14_whole_reading_is_the_re 8)) (L2.defScope (topS PySem.Challenge.pw_replacelists_k14_whole_reading_is_the_re 8)) .none kV8 dc8 pm8 an8 cd8 ct8), sl8⟩)
    (c8 : PySem.W.codeIn K cd8 "finish" = true)
    (k8 : PySem.W.keepIn K (.ref f8) = true)
    {f27_9 : Addr} {od27_9 an27_9 : Option Addr} {sl27_9 : Array (Option Value)} {oc27_9 kV27_9 dc27_9 pm27_9 cd27_9 ct27_9 : Value}
    (a27_9 : PySem.W.findIn K (.ref KSteps) "__len__" = some (some (.ref f27_9)))
    (l27_9 : K.lookup f27_9 = some ⟨oc27_9, od27_9, .func (PySem.W.fnOf "__len__" "Steps.__len__" (L2.defArgs (clsS (topS PySem.Challenge.pw_replacelists_k14_whole_reading_is_the_re 27) 9)) (L2.defBody (clsS (topS PySem.Challenge.pw_replacelists_k14_whole_reading_is_the_re 27) 9)) (L2.defScope (clsS (topS PySem.Challenge.pw_replacelists_k14_whole_reading_is_the_re 27) 9)) .none kV27_9 dc27_9 pm27_9 an27_9 cd27_9 ct27_9), sl27_9⟩)
    (c27_9 : PySem.W.codeIn K cd27_9 "Steps.__len__" = true)
    (k27_9 : PySem.W.keepIn K (.ref f27_9) = true)
    (i27_9 : PySem.W.isFn K (.ref f27_9) = true)
    (w27_9 : PySem.W.fnIn K f27_9 = true)
    {f6 : Addr} {od6 an6 : Option Addr} {sl6 : Array (Option Value)} {oc6 kV6 dc6 pm6 cd6 ct6 : Value}
    (a6 : PySem.W.nsIn K mainGlobals "start" = some (some (.ref f6)))
    (l6 : K.lookup f6 = some ⟨oc6, od6, .func (PySem.W.fnOf "start" "start" (L2.defArgs (topS PySem.Challenge.pw_replacelists_k14_whole_reading_is_the_re 6)) (L2.defBody (topS PySem.Challenge.pw_replacelists_k14_whole_reading_is_the_re 6)) (L2.defScope (topS PySem.Challenge.pw_replacelists_k14_whole_reading_is_the_re 6)) .none kV6 dc6 pm6 an6 cd6 ct6), sl6⟩)
    (c6 : PySem.W.codeIn K cd6 "start" = true)
    (k6 : PySem.W.keepIn K (.ref f6) = true)
    {f43 : Addr} {od43 an43 : Option Addr} {sl43 : Array (Option Value)} {oc43 kV43 dc43 pm43 cd43 ct43 : Value}
    (a43 : PySem.W.nsIn K mainGlobals "law" = some (some (.ref f43)))
    (l43 : K.lookup f43 = some ⟨oc43, od43, .func (PySem.W.fnOf "law" "law" (L2.defArgs (topS PySem.Challenge.pw_replacelists_k14_whole_reading_is_the_re 43)) (L2.defBody (topS PySem.Challenge.pw_replacelists_k14_whole_reading_is_the_re 43)) (L2.defScope (topS PySem.Challenge.pw_replacelists_k14_whole_reading_is_the_re 43)) .none kV43 dc43 pm43 an43 cd43 ct43), sl43⟩)
    (c43 : PySem.W.codeIn K cd43 "law" = true)
    (k43 : PySem.W.keepIn K (.ref f43) = true)
    {f27_7 : Addr} {od27_7 an27_7 : Option Addr} {sl27_7 : Array (Option Value)} {oc27_7 kV27_7 dc27_7 pm27_7 cd27_7 ct27_7 : Value}
    (a27_7 : PySem.W.findIn K (.ref KSteps) "__iter__" = some (some (.ref f27_7)))
    (l27_7 : K.lookup f27_7 = some ⟨oc27_7, od27_7, .func (PySem.W.fnOf "__iter__" "Steps.__iter__" (L2.defArgs (clsS (topS PySem.Challenge.pw_replacelists_k14_whole_reading_is_the_re 27) 7)) (L2.defBody (clsS (topS PySem.Challenge.pw_replacelists_k14_whole_reading_is_the_re 27) 7)) (L2.defScope (clsS (topS PySem.Challenge.pw_replacelists_k14_whole_reading_is_the_re 27) 7)) .none kV27_7 dc27_7 pm27_7 an27_7 cd27_7 ct27_7), sl27_7⟩)
    (c27_7 : PySem.W.codeIn K cd27_7 "Steps.__iter__" = true)
    (k27_7 : PySem.W.keepIn K (.ref f27_7) = true)
    (i27_7 : PySem.W.isFn K (.ref f27_7) = true)
    {tg_MOST_GROWTH : Tok}
    (g_MOST_GROWTH : PySem.W.nsIn K mainGlobals "MOST_GROWTH" = some (some (.int 1000 tg_MOST_GROWTH)))
    {tg_MOST_NEW : Tok}
    (g_MOST_NEW : PySem.W.nsIn K mainGlobals "MOST_NEW" = some (some (.int 40 tg_MOST_NEW)))
    {tg_MOST_OLD : Tok}
    (g_MOST_OLD : PySem.W.nsIn K mainGlobals "MOST_OLD" = some (some (.int 20 tg_MOST_OLD)))
    {tg_MOST_STEPS : Tok}
    (g_MOST_STEPS : PySem.W.nsIn K mainGlobals "MOST_STEPS" = some (some (.int 24 tg_MOST_STEPS)))
    (z_len : PySem.W.nsIn K mainGlobals "len" = some none)
    (z_int : PySem.W.nsIn K mainGlobals "int" = some none)
    (z_list : PySem.W.nsIn K mainGlobals "list" = some none)
    (z_tuple : PySem.W.nsIn K mainGlobals "tuple" = some none)
    (z_sorted : PySem.W.nsIn K mainGlobals "sorted" = some none)
    (z_isinstance : PySem.W.nsIn K mainGlobals "isinstance" = some none)
    (z_max : PySem.W.nsIn K mainGlobals "max" = some none)
    (z_min : PySem.W.nsIn K mainGlobals "min" = some none)
    (z_range : PySem.W.nsIn K mainGlobals "range" = some none)
    (z_bool : PySem.W.nsIn K mainGlobals "bool" = some none)
    (z_str : PySem.W.nsIn K mainGlobals "str" = some none)
    (z_dict : PySem.W.nsIn K mainGlobals "dict" = some none)
    (z_set : PySem.W.nsIn K mainGlobals "set" = some none)
    (z_enumerate : PySem.W.nsIn K mainGlobals "enumerate" = some none)
    (z_zip : PySem.W.nsIn K mainGlobals "zip" = some none)
    (z_iter : PySem.W.nsIn K mainGlobals "iter" = some none)
    (sN : PySem.W.nsIn K cStatics sharingNotToldKey = some none) :
    codeAny (model PySem.Challenge.pw_replacelists_k14_whole_reading_is_the_re w) callerA (.call (.ref fa) ⟨[.ref a], []⟩) (fun r s' => r = .ok (.ret (.bool true)) ∧ OldK s₁.heap s'.heap ∧ s'.os = s₁.os ∧ AllBare s'.gens) s₁ := by
  let gc : GC := ⟨PySem.Challenge.pw_replacelists_k14_whole_reading_is_the_re, w, K, mg, s₁.heap, fun c => if c = "Steps" then some KSteps else none⟩
  have G : Glb gc := fun n hn => by
    simp only [bltN, List.mem_cons, List.not_mem_nil, or_false] at hn
    rcases hn with rfl | rfl | rfl | rfl | rfl | rfl | rfl | rfl | rfl | rfl | rfl | rfl | rfl | rfl | rfl | rfl
    · exact PySem.W.mg_none_of KX hns z_len
    · exact PySem.W.mg_none_of KX hns z_int
    · exact PySem.W.mg_none_of KX hns z_list
    · exact PySem.W.mg_none_of KX hns z_tuple
    · exact PySem.W.mg_none_of KX hns z_sorted
    · exact PySem.W.mg_none_of KX hns z_isinstance
    · exact PySem.W.mg_none_of KX hns z_max
    · exact PySem.W.mg_none_of KX hns z_min
    · exact PySem.W.mg_none_of KX hns z_range
    · exact PySem.W.mg_none_of KX hns z_bool
    · exact PySem.W.mg_none_of KX hns z_str
    · exact PySem.W.mg_none_of KX hns z_dict
    · exact PySem.W.mg_none_of KX hns z_set
    · exact PySem.W.mg_none_of KX hns z_enumerate
    · exact PySem.W.mg_none_of KX hns z_zip
    · exact PySem.W.mg_none_of KX hns z_iter
  have hgs : ∀ x i, gsL.lookup x = some i → ∃ t, mg x = some (.int i t) := fun x i h => by
    have h := PySem.mem_of_lookup h
    simp only [gsL, List.mem_cons, List.not_mem_nil, or_false, Prod.mk.injEq] at h
    rcases h with ⟨rfl, rfl⟩ | ⟨rfl, rfl⟩ | ⟨rfl, rfl⟩ | ⟨rfl, rfl⟩
    · exact ⟨_, PySem.W.mg_of KX hns g_MOST_GROWTH⟩
    · exact ⟨_, PySem.W.mg_of KX hns g_MOST_NEW⟩
    · exact ⟨_, PySem.W.mg_of KX hns g_MOST_OLD⟩
    · exact ⟨_, PySem.W.mg_of KX hns g_MOST_STEPS⟩
  have clsSteps : gc.cls "Steps" = some KSteps := by simp [gc]
  have el := hfa.symm.trans (PySem.W.mg_of KX hns a43)
  cases el
  have F27_7 := L2.fun_mk (st := (clsS (topS PySem.Challenge.pw_replacelists_k14_whole_reading_is_the_re 27) 7)) l27_7 c27_7 k27_7
  have qi27_7 : ∀ k, 4 ≤ k → IterQ gc k "Steps" "listed" := fun k hk => iterQ_of (j := 0) (self := "self") clsSteps a27_7 i27_7 F27_7 ⟨rfl, rfl, rfl, by decide +kernel, rfl, by decide +kernel, by decide +kernel⟩ (fun _ _ _ _ _ _ us hl => match us, hl with | [_], _ => rfl) (by decide) (by decide) (by decide +kernel) G (by decide +kernel) (by omega)
  have F18 := L2.fun_mk (st := (topS PySem.Challenge.pw_replacelists_k14_whole_reading_is_the_re 18)) l18 c18 k18
  have q18 : Cal gc 3 "is_map" (run C0 dis_map) := cal_of (C := C0) (k := 2) (fs := fis_map) (gs := gsL) (psF := psis_map) (msF := msis_map) (itF := itis_map) hgs (PySem.W.mg_of KX hns a18) F18 sis_map (fun _ _ _ _ _ _ us hl => match us, hl with | [_], _ => rfl) rfl rfl cis_map G (fun f h => by simp [fis_map] at h) (fun _ _ h => by cases h) (fun _ _ h => by cases h) (fun _ _ h => by cases h)
  have F19 := L2.fun_mk (st := (topS PySem.Challenge.pw_replacelists_k14_whole_reading_is_the_re 19)) l19 c19 k19
  have q19 : Cal gc 6 "is_step" (run C1 dis_step) := cal_of (C := C1) (k := 5) (fs := fis_step) (gs := gsL) (psF := psis_step) (msF := msis_step) (itF := itis_step) hgs (PySem.W.mg_of KX hns a19) F19 sis_step (fun _ _ _ _ _ _ us hl => match us, hl with | [_], _ => rfl) rfl rfl cis_step G (fun f h => by
      have h : f ∈ ["is_map"] := by simpa [fis_step] using h
      simp only [List.mem_cons, List.not_mem_nil, or_false] at h
      rcases h with rfl
      · exact q18.up (by decide)) (fun _ _ h => by cases h) (fun _ _ h => by cases h) (fun _ _ h => by cases h)
  have F20 := L2.fun_mk (st := (topS PySem.Challenge.pw_replacelists_k14_whole_reading_is_the_re 20)) l20 c20 k20
  have q20 : Cal gc 9 "step_growth" (run C2 dstep_growth) := cal_of (C := C2) (k := 8) (fs := fstep_growth) (gs := gsL) (psF := psstep_growth) (msF := msstep_growth) (itF := itstep_growth) hgs (PySem.W.mg_of KX hns a20) F20 sstep_growth (fun _ _ _ _ _ _ us hl => match us, hl with | [_], _ => rfl) rfl rfl cstep_growth G (fun f h => by simp [fstep_growth] at h) (fun _ _ h => by cases h) (fun _ _ h => by cases h) (fun _ _ h => by cases h)
  have F27_0 := L2.fun_mk (st := (clsS (topS PySem.Challenge.pw_replacelists_k14_whole_reading_is_the_re 27) 0)) l27_0 c27_0 k27_0
  have M27_0 : MkC gc "Steps" KSteps f27_0 (dSteps.fs.map (·.1)) := mkC_of clsSteps pgKSteps hdKSteps poKSteps saKSteps mkKSteps kcKSteps a27_0 i27_0 (fun n hn => by
    have hn : n ∈ ["listed", "total"] := hn
    simp only [List.mem_cons, List.not_mem_nil, or_false] at hn
    rcases hn with rfl | rfl
    · exact noKSteps_listed
    · exact noKSteps_total) (by decide) (by decide +kernel)
  have q27_0 : Cal gc 12 "Steps" (runI "Steps" C3 dSteps) := ini_of (C := C3) (k := 10) (ps := ["steps"]) (fs := fSteps) (gs := gsL) (psF := psSteps) (msF := msSteps) (itF := itSteps) hgs M27_0 (PySem.W.mg_of KX hns aKSteps) F27_0 sSteps (fun _ _ _ _ _ _ us hl => match us, hl with | [_, _], _ => rfl) rfl rfl (by decide) (by decide) cSteps G (fun f h => by
      have h : f ∈ ["is_step", "step_growth"] := by simpa [fSteps] using h
      simp only [List.mem_cons, List.not_mem_nil, or_false] at h
      rcases h with rfl | rfl
      · exact q19.up (by decide)
      · exact q20.up (by decide)) (fun _ _ h => by cases h) (fun _ _ h => by cases h) (fun _ _ h => by cases h)
  have F22 := L2.fun_mk (st := (topS PySem.Challenge.pw_replacelists_k14_whole_reading_is_the_re 22)) l22 c22 k22
  have q22 : Cal gc 15 "mapped" (run C4 dmapped) := cal_of (C := C4) (k := 14) (fs := fmapped) (gs := gsL) (psF := psmapped) (msF := msmapped) (itF := itmapped) hgs (PySem.W.mg_of KX hns a22) F22 smapped (fun _ _ _ _ _ _ us hl => match us, hl with | [_, _], _ => rfl) rfl rfl cmapped G (fun f h => by simp [fmapped] at h) (fun _ _ h => by cases h) (fun _ _ h => by cases h) (fun _ _ h => by cases h)
  have F21 := L2.fun_mk (st := (topS PySem.Challenge.pw_replacelists_k14_whole_reading_is_the_re 21)) l21 c21 k21
  have q21 : Cal gc 18 "squeezed" (run C5 dsqueezed) := cal_of (C := C5) (k := 17) (fs := fsqueezed) (gs := gsL) (psF := pssqueezed) (msF := mssqueezed) (itF := itsqueezed) hgs (PySem.W.mg_of KX hns a21) F21 ssqueezed (fun _ _ _ _ _ _ us hl => match us, hl with | [_, _], _ => rfl) rfl rfl csqueezed G (fun f h => by simp [fsqueezed] at h) (fun _ _ h => by cases h) (fun _ _ h => by cases h) (fun _ _ h => by cases h)
  have F23 := L2.fun_mk (st := (topS PySem.Challenge.pw_replacelists_k14_whole_reading_is_the_re 23)) l23 c23 k23
  have q23 : Cal gc 21 "run_step" (run C6 drun_step) := cal_of (C := C6) (k := 20) (fs := frun_step) (gs := gsL) (psF := psrun_step) (msF := msrun_step) (itF := itrun_step) hgs (PySem.W.mg_of KX hns a23) F23 srun_step (fun _ _ _ _ _ _ us hl => match us, hl with | [_, _], _ => rfl) rfl rfl crun_step G (fun f h => by
      have h : f ∈ ["mapped", "squeezed"] := by simpa [frun_step] using h
      simp only [List.mem_cons, List.not_mem_nil, or_false] at h
      rcases h with rfl | rfl
      · exact q22.up (by decide)
      · exact q21.up (by decide)) (fun _ _ h => by cases h) (fun _ _ h => by cases h) (fun _ _ h => by cases h)
  have F27_2 := L2.fun_mk (st := (clsS (topS PySem.Challenge.pw_replacelists_k14_whole_reading_is_the_re 27) 2)) l27_2 c27_2 k27_2
  have p27_2 : FnQ gc 24 f27_2 (run C7 dSteps_o___call__) := q_of (C := C7) (k := 23) (fs := fSteps_o___call__) (gs := gsL) (psF := psSteps_o___call__) (msF := msSteps_o___call__) (itF := itSteps_o___call__) hgs F27_2 sSteps_o___call__ (fun _ _ _ _ _ _ us hl => match us, hl with | [_, _], _ => rfl) rfl rfl cSteps_o___call__ G (fun f h => by
      have h : f ∈ ["run_step"] := by simpa [fSteps_o___call__] using h
      simp only [List.mem_cons, List.not_mem_nil, or_false] at h
      rcases h with rfl
      · exact q23.up (by decide)) (fun _ _ h => by cases h) (fun _ _ h => by cases h) (fun _ _ h => by cases h)
  have F29 := L2.fun_mk (st := (topS PySem.Challenge.pw_replacelists_k14_whole_reading_is_the_re 29)) l29 c29 k29
  have q29 : Cal gc 27 "_law_draw" (run C8 d_law_draw) := cal_of (C := C8) (k := 26) (fs := f_law_draw) (gs := gsL) (psF := ps_law_draw) (msF := ms_law_draw) (itF := it_law_draw) hgs (PySem.W.mg_of KX hns a29) F29 s_law_draw (fun _ _ _ _ _ _ us hl => match us, hl with | [_, _], _ => rfl) rfl rfl c_law_draw G (fun f h => by simp [f_law_draw] at h) (fun _ _ h => by cases h) (fun _ _ h => by cases h) (fun _ _ h => by cases h)
  have F32 := L2.fun_mk (st := (topS PySem.Challenge.pw_replacelists_k14_whole_reading_is_the_re 32)) l32 c32 k32
  have q32 : Cal gc 30 "_law_word" (run C9 d_law_word) := cal_of (C := C9) (k := 29) (fs := f_law_word) (gs := gsL) (psF := ps_law_word) (msF := ms_law_word) (itF := it_law_word) hgs (PySem.W.mg_of KX hns a32) F32 s_law_word (fun _ _ _ _ _ _ us hl => match us, hl with | [_, _, _], _ => rfl) rfl rfl c_law_word G (fun f h => by
      have h : f ∈ ["_law_draw"] := by simpa [f_law_word] using h
      simp only [List.mem_cons, List.not_mem_nil, or_false] at h
      rcases h with rfl
      · exact q29.up (by decide)) (fun _ _ h => by cases h) (fun _ _ h => by cases h) (fun _ _ h => by cases h)
  have F33 := L2.fun_mk (st := (topS PySem.Challenge.pw_replacelists_k14_whole_reading_is_the_re 33)) l33 c33 k33
  have q33 : Cal gc 33 "_law_old" (run C10 d_law_old) := cal_of (C := C10) (k := 32) (fs := f_law_old) (gs := gsL) (psF := ps_law_old) (msF := ms_law_old) (itF := it_law_old) hgs (PySem.W.mg_of KX hns a33) F33 s_law_old (fun _ _ _ _ _ _ us hl => match us, hl with | [_, _, _], _ => rfl) rfl rfl c_law_old G (fun f h => by
      have h : f ∈ ["_law_draw", "_law_word"] := by simpa [f_law_old] using h
      simp only [List.mem_cons, List.not_mem_nil, or_false] at h
      rcases h with rfl | rfl
      · exact q29.up (by decide)
      · exact q32.up (by decide)) (fun _ _ h => by cases h) (fun _ _ h => by cases h) (fun _ _ h => by cases h)
  have F36 := L2.fun_mk (st := (topS PySem.Challenge.pw_replacelists_k14_whole_reading_is_the_re 36)) l36 c36 k36
  have q36 : Cal gc 36 "_law_kind" (run C11 d_law_kind) := cal_of (C := C11) (k := 35) (fs := f_law_kind) (gs := gsL) (psF := ps_law_kind) (msF := ms_law_kind) (itF := it_law_kind) hgs (PySem.W.mg_of KX hns a36) F36 s_law_kind (fun _ _ _ _ _ _ us hl => match us, hl with | [_, _], _ => rfl) rfl rfl c_law_kind G (fun f h => by
      have h : f ∈ ["_law_draw", "_law_old", "_law_word"] := by simpa [f_law_kind] using h
      simp only [List.mem_cons, List.not_mem_nil, or_false] at h
      rcases h with rfl | rfl | rfl
      · exact q29.up (by decide)
      · exact q33.up (by decide)
      · exact q32.up (by decide)) (fun _ _ h => by cases h) (fun _ _ h => by cases h) (fun _ _ h => by cases h)
  have F34 := L2.fun_mk (st := (topS PySem.Challenge.pw_replacelists_k14_whole_reading_is_the_re 34)) l34 c34 k34
  have q34 : Cal gc 39 "_law_step" (run C12 d_law_step) := cal_of (C := C12) (k := 38) (fs := f_law_step) (gs := gsL) (psF := ps_law_step) (msF := ms_law_step) (itF := it_law_step) hgs (PySem.W.mg_of KX hns a34) F34 s_law_step (fun _ _ _ _ _ _ us hl => match us, hl with | [_, _], _ => rfl) rfl rfl c_law_step G (fun f h => by
      have h : f ∈ ["_law_draw", "_law_word"] := by simpa [f_law_step] using h
      simp only [List.mem_cons, List.not_mem_nil, or_false] at h
      rcases h with rfl | rfl
      · exact q29.up (by decide)
      · exact q32.up (by decide)) (fun _ _ h => by cases h) (fun _ _ h => by cases h) (fun _ _ h => by cases h)
  have F35 := L2.fun_mk (st := (topS PySem.Challenge.pw_replacelists_k14_whole_reading_is_the_re 35)) l35 c35 k35
  have q35 : Cal gc 42 "_law_list" (run C13 d_law_list) := cal_of (C := C13) (k := 41) (fs := f_law_list) (gs := gsL) (psF := ps_law_list) (msF := ms_law_list) (itF := it_law_list) hgs (PySem.W.mg_of KX hns a35) F35 s_law_list (fun _ _ _ _ _ _ us hl => match us, hl with | [_, _, _], _ => rfl) rfl rfl c_law_list G (fun f h => by
      have h : f ∈ ["_law_draw", "_law_step"] := by simpa [f_law_list] using h
      simp only [List.mem_cons, List.not_mem_nil, or_false] at h
      rcases h with rfl | rfl
      · exact q29.up (by decide)
      · exact q34.up (by decide)) (fun _ _ h => by cases h) (fun _ _ h => by cases h) (fun _ _ h => by cases h)
  have F37 := L2.fun_mk (st := (topS PySem.Challenge.pw_replacelists_k14_whole_reading_is_the_re 37)) l37 c37 k37
  have q37 : Cal gc 45 "_law_any" (run C14 d_law_any) := cal_of (C := C14) (k := 44) (fs := f_law_any) (gs := gsL) (psF := ps_law_any) (msF := ms_law_any) (itF := it_law_any) hgs (PySem.W.mg_of KX hns a37) F37 s_law_any (fun _ _ _ _ _ _ us hl => match us, hl with | [_, _], _ => rfl) rfl rfl c_law_any G (fun f h => by
      have h : f ∈ ["_law_draw", "_law_kind", "_law_list", "_law_step"] := by simpa [f_law_any] using h
      simp only [List.mem_cons, List.not_mem_nil, or_false] at h
      rcases h with rfl | rfl | rfl | rfl
      · exact q29.up (by decide)
      · exact q36.up (by decide)
      · exact q35.up (by decide)
      · exact q34.up (by decide)) (fun _ _ h => by cases h) (fun _ _ h => by cases h) (fun _ _ h => by cases h)
  have F30 := L2.fun_mk (st := (topS PySem.Challenge.pw_replacelists_k14_whole_reading_is_the_re 30)) l30 c30 k30
  have q30 : Cal gc 48 "_law_char" (run C15 d_law_char) := cal_of (C := C15) (k := 47) (fs := f_law_char) (gs := gsL) (psF := ps_law_char) (msF := ms_law_char) (itF := it_law_char) hgs (PySem.W.mg_of KX hns a30) F30 s_law_char (fun _ _ _ _ _ _ us hl => match us, hl with | [_], _ => rfl) rfl rfl c_law_char G (fun f h => by simp [f_law_char] at h) (fun _ _ h => by cases h) (fun _ _ h => by cases h) (fun _ _ h => by cases h)
  have F31 := L2.fun_mk (st := (topS PySem.Challenge.pw_replacelists_k14_whole_reading_is_the_re 31)) l31 c31 k31
  have q31 : Cal gc 51 "_law_letters" (run C16 d_law_letters) := cal_of (C := C16) (k := 50) (fs := f_law_letters) (gs := gsL) (psF := ps_law_letters) (msF := ms_law_letters) (itF := it_law_letters) hgs (PySem.W.mg_of KX hns a31) F31 s_law_letters (fun _ _ _ _ _ _ us hl => match us, hl with | [_, _], _ => rfl) rfl rfl c_law_letters G (fun f h => by
      have h : f ∈ ["_law_char", "_law_draw"] := by simpa [f_law_letters] using h
      simp only [List.mem_cons, List.not_mem_nil, or_false] at h
      rcases h with rfl | rfl
      · exact q30.up (by decide)
      · exact q29.up (by decide)) (fun _ _ h => by cases h) (fun _ _ h => by cases h) (fun _ _ h => by cases h)
  have F39 := L2.fun_mk (st := (topS PySem.Challenge.pw_replacelists_k14_whole_reading_is_the_re 39)) l39 c39 k39
  have q39 : Cal gc 54 "_law_parts" (run C17 d_law_parts) := cal_of (C := C17) (k := 53) (fs := f_law_parts) (gs := gsL) (psF := ps_law_parts) (msF := ms_law_parts) (itF := it_law_parts) hgs (PySem.W.mg_of KX hns a39) F39 s_law_parts (fun _ _ _ _ _ _ us hl => match us, hl with | [_, _], _ => rfl) rfl rfl c_law_parts G (fun f h => by simp [f_law_parts] at h) (fun _ _ h => by cases h) (fun _ _ h => by cases h) (fun _ _ h => by cases h)
  have F41 := L2.fun_mk (st := (topS PySem.Challenge.pw_replacelists_k14_whole_reading_is_the_re 41)) l41 c41 k41
  have q41 : Cal gc 57 "_law_mapped" (run C18 d_law_mapped) := cal_of (C := C18) (k := 56) (fs := f_law_mapped) (gs := gsL) (psF := ps_law_mapped) (msF := ms_law_mapped) (itF := it_law_mapped) hgs (PySem.W.mg_of KX hns a41) F41 s_law_mapped (fun _ _ _ _ _ _ us hl => match us, hl with | [_, _], _ => rfl) rfl rfl c_law_mapped G (fun f h => by simp [f_law_mapped] at h) (fun _ _ h => by cases h) (fun _ _ h => by cases h) (fun _ _ h => by cases h)
  have F40 := L2.fun_mk (st := (topS PySem.Challenge.pw_replacelists_k14_whole_reading_is_the_re 40)) l40 c40 k40
  have q40 : Cal gc 60 "_law_squeezed" (run C19 d_law_squeezed) := cal_of (C := C19) (k := 59) (fs := f_law_squeezed) (gs := gsL) (psF := ps_law_squeezed) (msF := ms_law_squeezed) (itF := it_law_squeezed) hgs (PySem.W.mg_of KX hns a40) F40 s_law_squeezed (fun _ _ _ _ _ _ us hl => match us, hl with | [_, _], _ => rfl) rfl rfl c_law_squeezed G (fun f h => by simp [f_law_squeezed] at h) (fun _ _ h => by cases h) (fun _ _ h => by cases h) (fun _ _ h => by cases h)
  have F42 := L2.fun_mk (st := (topS PySem.Challenge.pw_replacelists_k14_whole_reading_is_the_re 42)) l42 c42 k42
  have q42 : Cal gc 63 "_law_run" (run C20 d_law_run) := cal_of (C := C20) (k := 62) (fs := f_law_run) (gs := gsL) (psF := ps_law_run) (msF := ms_law_run) (itF := it_law_run) hgs (PySem.W.mg_of KX hns a42) F42 s_law_run (fun _ _ _ _ _ _ us hl => match us, hl with | [_, _], _ => rfl) rfl rfl c_law_run G (fun f h => by
      have h : f ∈ ["_law_mapped", "_law_squeezed"] := by simpa [f_law_run] using h
      simp only [List.mem_cons, List.not_mem_nil, or_false] at h
      rcases h with rfl | rfl
      · exact q41.up (by decide)
      · exact q40.up (by decide)) (fun _ _ h => by cases h) (fun _ _ h => by cases h) (fun _ _ h => by cases h)
  have F38 := L2.fun_mk (st := (topS PySem.Challenge.pw_replacelists_k14_whole_reading_is_the_re 38)) l38 c38 k38
  have q38 : Cal gc 66 "_law_text" (run C21 d_law_word) := cal_of (C := C21) (k := 65) (fs := f_law_text) (gs := gsL) (psF := ps_law_text) (msF := ms_law_text) (itF := it_law_text) hgs (PySem.W.mg_of KX hns a38) F38 s_law_text (fun _ _ _ _ _ _ us hl => match us, hl with | [_, _, _], _ => rfl) rfl rfl c_law_text G (fun f h => by
      have h : f ∈ ["_law_draw"] := by simpa [f_law_text] using h
      simp only [List.mem_cons, List.not_mem_nil, or_false] at h
      rcases h with rfl
      · exact q29.up (by decide)) (fun _ _ h => by cases h) (fun _ _ h => by cases h) (fun _ _ h => by cases h)
  have F2 := L2.fun_mk (st := (topS PySem.Challenge.pw_replacelists_k14_whole_reading_is_the_re 2)) l2 c2 k2
  have q2 : Cal gc 69 "read_old" (run C22 dread_old) := cal_of (C := C22) (k := 68) (fs := fread_old) (gs := gsL) (psF := psread_old) (msF := msread_old) (itF := itread_old) hgs (PySem.W.mg_of KX hns a2) F2 sread_old (fun _ _ _ _ _ _ us hl => match us, hl with | [_, _, _], _ => rfl) rfl rfl cread_old G (fun f h => by simp [fread_old] at h) (fun _ _ h => by cases h) (fun _ _ h => by cases h) (fun _ _ h => by cases h)
  have F3 := L2.fun_mk (st := (topS PySem.Challenge.pw_replacelists_k14_whole_reading_is_the_re 3)) l3 c3 k3
  have q3 : Cal gc 72 "read_char" (run C23 dread_char) := cal_of (C := C23) (k := 71) (fs := fread_char) (gs := gsL) (psF := psread_char) (msF := msread_char) (itF := itread_char) hgs (PySem.W.mg_of KX hns a3) F3 sread_char (fun _ _ _ _ _ _ us hl => match us, hl with | [_, _, _], _ => rfl) rfl rfl cread_char G (fun f h => by
      have h : f ∈ ["read_old"] := by simpa [fread_char] using h
      simp only [List.mem_cons, List.not_mem_nil, or_false] at h
      rcases h with rfl
      · exact q2.up (by decide)) (fun _ _ h => by cases h) (fun _ _ h => by cases h) (fun _ _ h => by cases h)
  have F4 := L2.fun_mk (st := (topS PySem.Challenge.pw_replacelists_k14_whole_reading_is_the_re 4)) l4 c4 k4
  have q4 : Cal gc 75 "read_text" (run C24 dread_text) := cal_of (C := C24) (k := 74) (fs := fread_text) (gs := gsL) (psF := psread_text) (msF := msread_text) (itF := itread_text) hgs (PySem.W.mg_of KX hns a4) F4 sread_text (fun _ _ _ _ _ _ us hl => match us, hl with | [_, _, _], _ => rfl) rfl rfl cread_text G (fun f h => by
      have h : f ∈ ["read_char"] := by simpa [fread_text] using h
      simp only [List.mem_cons, List.not_mem_nil, or_false] at h
      rcases h with rfl
      · exact q3.up (by decide)) (fun _ _ h => by cases h) (fun _ _ h => by cases h) (fun _ _ h => by cases h)
  have F7 := L2.fun_mk (st := (topS PySem.Challenge.pw_replacelists_k14_whole_reading_is_the_re 7)) l7 c7 k7
  have q7 : Cal gc 78 "advance" (run C25 dadvance) := cal_of (C := C25) (k := 77) (fs := fadvance) (gs := gsL) (psF := psadvance) (msF := msadvance) (itF := itadvance) hgs (PySem.W.mg_of KX hns a7) F7 sadvance (fun _ _ _ _ _ _ us hl => match us, hl with | [_, _, _], _ => rfl) rfl rfl cadvance G (fun f h => by
      have h : f ∈ ["read_text"] := by simpa [fadvance] using h
      simp only [List.mem_cons, List.not_mem_nil, or_false] at h
      rcases h with rfl
      · exact q4.up (by decide)) (fun _ _ h => by cases h) (fun _ _ h => by cases h) (fun c f h => by
      have h : (c, f) ∈ [("Steps", "listed")] := by simpa [itadvance] using h
      simp only [List.mem_cons, List.not_mem_nil, or_false, Prod.mk.injEq] at h
      rcases h with ⟨rfl, rfl⟩
      · exact qi27_7 _ (by decide))
  have F8 := L2.fun_mk (st := (topS PySem.Challenge.pw_replacelists_k14_whole_reading_is_the_re 8)) l8 c8 k8
  have q8 : Cal gc 81 "finish" (run C26 dfinish) := cal_of (C := C26) (k := 80) (fs := ffinish) (gs := gsL) (psF := psfinish) (msF := msfinish) (itF := itfinish) hgs (PySem.W.mg_of KX hns a8) F8 sfinish (fun _ _ _ _ _ _ us hl => match us, hl with | [_, _], _ => rfl) rfl rfl cfinish G (fun f h => by
      have h : f ∈ ["read_text"] := by simpa [ffinish] using h
      simp only [List.mem_cons, List.not_mem_nil, or_false] at h
      rcases h with rfl
      · exact q4.up (by decide)) (fun _ _ h => by cases h) (fun _ _ h => by cases h) (fun c f h => by
      have h : (c, f) ∈ [("Steps", "listed")] := by simpa [itfinish] using h
      simp only [List.mem_cons, List.not_mem_nil, or_false, Prod.mk.injEq] at h
      rcases h with ⟨rfl, rfl⟩
      · exact qi27_7 _ (by decide))
  have F27_9 := L2.fun_mk (st := (clsS (topS PySem.Challenge.pw_replacelists_k14_whole_reading_is_the_re 27) 9)) l27_9 c27_9 k27_9
  have p27_9 : FnQ gc 84 f27_9 (run C27 dSteps_o___len__) := q_of (C := C27) (k := 83) (fs := fSteps_o___len__) (gs := gsL) (psF := psSteps_o___len__) (msF := msSteps_o___len__) (itF := itSteps_o___len__) hgs F27_9 sSteps_o___len__ (fun _ _ _ _ _ _ us hl => match us, hl with | [_], _ => rfl) rfl rfl cSteps_o___len__ G (fun f h => by simp [fSteps_o___len__] at h) (fun _ _ h => by cases h) (fun _ _ h => by cases h) (fun _ _ h => by cases h)
  have F6 := L2.fun_mk (st := (topS PySem.Challenge.pw_replacelists_k14_whole_reading_is_the_re 6)) l6 c6 k6
  have q6 : Cal gc 87 "start" (run C28 dstart) := cal_of (C := C28) (k := 86) (fs := fstart) (gs := gsL) (psF := psstart) (msF := msstart) (itF := itstart) hgs (PySem.W.mg_of KX hns a6) F6 sstart (fun _ _ _ _ _ _ us hl => match us, hl with | [_], _ => rfl) rfl rfl cstart G (fun f h => by simp [fstart] at h) (fun _ _ h => by cases h) (fun c f h => by
      have h : (c, f) ∈ [("Steps", "__len__")] := by simpa [msstart] using h
      simp only [List.mem_cons, List.not_mem_nil, or_false, Prod.mk.injEq] at h
      rcases h with ⟨rfl, rfl⟩
      · exact methQ_of clsSteps a27_9 i27_9 w27_9 k27_9 p27_9 (by decide)) (fun _ _ h => by cases h)
  have F43 := L2.fun_mk (st := (topS PySem.Challenge.pw_replacelists_k14_whole_reading_is_the_re 43)) l43 c43 k43
  refine law_of (k := 89) (cls := gc.cls) (fs := flaw) (gs := gsL) (psF := pslaw) (msF := mslaw) (itF := itlaw) (C := C29) hgs KX hns hb hbb hlim (nb_of KX hlim sN) hg ha hi (Nat.le_trans hln (by decide)) ⟨rfl, by decide, by decide⟩ F43 slaw (fun _ _ _ _ _ _ us hl => ?_) rfl rfl (by decide +kernel) claw G (fun f h => by
      have h : f ∈ ["Steps", "_law_any", "_law_draw", "_law_letters", "_law_parts", "_law_run", "_law_text", "advance", "finish", "start"] := by simpa [flaw] using h
      simp only [List.mem_cons, List.not_mem_nil, or_false] at h
      rcases h with rfl | rfl | rfl | rfl | rfl | rfl | rfl | rfl | rfl | rfl
      · exact q27_0.up (by decide)
      · exact q37.up (by decide)
      · exact q29.up (by decide)
      · exact q31.up (by decide)
      · exact q39.up (by decide)
      · exact q42.up (by decide)
      · exact q38.up (by decide)
      · exact q7.up (by decide)
      · exact q8.up (by decide)
      · exact q6.up (by decide)) (fun _ _ h => by cases h) (fun c f h => by
      have h : (c, f) ∈ [("Steps", "__call__")] := by simpa [mslaw] using h
      simp only [List.mem_cons, List.not_mem_nil, or_false, Prod.mk.injEq] at h
      rcases h with ⟨rfl, rfl⟩
      · exact methQ_of clsSteps a27_2 i27_2 w27_2 k27_2 p27_2 (by decide)) (fun _ _ h => by cases h) (frok_of (hrunW ns hln))
  · cases us with
    | nil => cases hl
    | cons u us => cases us with
      | nil => rfl
      | cons _ _ => cases hl
end Q
open PySem PySem.W PyProof.Rows
set_option maxHeartbeats 0 in
theorem PySem.Challenge.cw_replacelists_k14_whole_reading_is_the_re_holds : PySem.Challenge.rw_replacelists_k14_whole_reading_is_the_re.Holds := by
  w_on; o_law; k_head; (case hw => w_witness2)
  k_fill
  refine Q.walk_T (l := PySem.Challenge.rw_replacelists_k14_whole_reading_is_the_re) (n := 63) rfl rfl (fun w h Y => PySem.W.kIn_of Y) ?F
  case F =>
    intro w mg mb fa a s₁ vs ns KX hns hfa hb hbb hlim hg ha hi hln
    refine' Q.all_mk KX hns hfa hb hbb hlim hg ha hi hln ?aKSteps ?pgKSteps ?hdKSteps ?poKSteps ?saKSteps ?mkKSteps ?kcKSteps ?noKSteps_listed ?noKSteps_total ?a18 ?l18 ?c18 ?k18 ?a19 ?l19 ?c19 ?k19 ?a20 ?l20 ?c20 ?k20 ?a27_0 ?l27_0 ?c27_0 ?k27_0 ?i27_0 ?w27_0 ?a22 ?l22 ?c22 ?k22 ?a21 ?l21 ?c21 ?k21 ?a23 ?l23 ?c23 ?k23 ?a27_2 ?l27_2 ?c27_2 ?k27_2 ?i27_2 ?w27_2 ?a29 ?l29 ?c29 ?k29 ?a32 ?l32 ?c32 ?k32 ?a33 ?l33 ?c33 ?k33 ?a36 ?l36 ?c36 ?k36 ?a34 ?l34 ?c34 ?k34 ?a35 ?l35 ?c35 ?k35 ?a37 ?l37 ?c37 ?k37 ?a30 ?l30 ?c30 ?k30 ?a31 ?l31 ?c31 ?k31 ?a39 ?l39 ?c39 ?k39 ?a41 ?l41 ?c41 ?k41 ?a40 ?l40 ?c40 ?k40 ?a42 ?l42 ?c42 ?k42 ?a38 ?l38 ?c38 ?k38 ?a2 ?l2 ?c2 ?k2 ?a3 ?l3 ?c3 ?k3 ?a4 ?l4 ?c4 ?k4 ?a7 ?l7 ?c7 ?k7 ?a8 ?l8 ?c8 ?k8 ?a27_9 ?l27_9 ?c27_9 ?k27_9 ?i27_9 ?w27_9 ?a6 ?l6 ?c6 ?k6 ?a43 ?l43 ?c43 ?k43 ?a27_7 ?l27_7 ?c27_7 ?k27_7 ?i27_7 ?g_MOST_GROWTH ?g_MOST_NEW ?g_MOST_OLD ?g_MOST_STEPS ?z_len ?z_int ?z_list ?z_tuple ?z_sorted ?z_isinstance ?z_max ?z_min ?z_range ?z_bool ?z_str ?z_dict ?z_set ?z_enumerate ?z_zip ?z_iter ?sN
    (case aKSteps => k_is); (case pgKSteps => k_is); (case hdKSteps => k_is); (case poKSteps => k_is); (case saKSteps => k_is); (case mkKSteps => k_is); (case kcKSteps => k_is); (case noKSteps_listed => k_is); (case noKSteps_total => k_is); (case a18 => k_is); (case l18 => k_is); (case c18 => k_is); (case k18 => k_is); (case a19 => k_is); (case l19 => k_is); (case c19 => k_is); (case k19 => k_is); (case a20 => k_is); (case l20 => k_is); (case c20 => k_is); (case k20 => k_is); (case a27_0 => k_is); (case l27_0 => k_is); (case c27_0 => k_is); (case k27_0 => k_is); (case i27_0 => k_is); (case w27_0 => k_is); (case a22 => k_is); (case l22 => k_is); (case c22 => k_is); (case k22 => k_is); (case a21 => k_is); (case l21 => k_is); (case c21 => k_is); (case k21 => k_is); (case a23 => k_is); (case l23 => k_is); (case c23 => k_is); (case k23 => k_is); (case a27_2 => k_is); (case l27_2 => k_is); (case c27_2 => k_is); (case k27_2 => k_is); (case i27_2 => k_is); (case w27_2 => k_is); (case a29 => k_is); (case l29 => k_is); (case c29 => k_is); (case k29 => k_is); (case a32 => k_is); (case l32 => k_is); (case c32 => k_is); (case k32 => k_is); (case a33 => k_is); (case l33 => k_is); (case c33 => k_is); (case k33 => k_is); (case a36 => k_is); (case l36 => k_is); (case c36 => k_is); (case k36 => k_is); (case a34 => k_is); (case l34 => k_is); (case c34 => k_is); (case k34 => k_is); (case a35 => k_is); (case l35 => k_is); (case c35 => k_is); (case k35 => k_is); (case a37 => k_is); (case l37 => k_is); (case c37 => k_is); (case k37 => k_is); (case a30 => k_is); (case l30 => k_is); (case c30 => k_is); (case k30 => k_is); (case a31 => k_is); (case l31 => k_is); (case c31 => k_is); (case k31 => k_is); (case a39 => k_is); (case l39 => k_is); (case c39 => k_is); (case k39 => k_is); (case a41 => k_is); (case l41 => k_is); (case c41 => k_is); (case k41 => k_is); (case a40 => k_is); (case l40 => k_is); (case c40 => k_is); (case k40 => k_is); (case a42 => k_is); (case l42 => k_is); (case c42 => k_is); (case k42 => k_is); (case a38 => k_is); (case l38 => k_is); (case c38 => k_is); (case k38 => k_is); (case a2 => k_is); (case l2 => k_is); (case c2 => k_is); (case k2 => k_is); (case a3 => k_is); (case l3 => k_is); (case c3 => k_is); (case k3 => k_is); (case a4 => k_is); (case l4 => k_is); (case c4 => k_is); (case k4 => k_is); (case a7 => k_is); (case l7 => k_is); (case c7 => k_is); (case k7 => k_is); (case a8 => k_is); (case l8 => k_is); (case c8 => k_is); (case k8 => k_is); (case a27_9 => k_is); (case l27_9 => k_is); (case c27_9 => k_is); (case k27_9 => k_is); (case i27_9 => k_is); (case w27_9 => k_is); (case a6 => k_is); (case l6 => k_is); (case c6 => k_is); (case k6 => k_is); (case a43 => k_is); (case l43 => k_is); (case c43 => k_is); (case k43 => k_is); (case a27_7 => k_is); (case l27_7 => k_is); (case c27_7 => k_is); (case k27_7 => k_is); (case i27_7 => k_is); (case g_MOST_GROWTH => k_is); (case g_MOST_NEW => k_is); (case g_MOST_OLD => k_is); (case g_MOST_STEPS => k_is); (case z_len => k_is); (case z_int => k_is); (case z_list => k_is); (case z_tuple => k_is); (case z_sorted => k_is); (case z_isinstance => k_is); (case z_max => k_is); (case z_min => k_is); (case z_range => k_is); (case z_bool => k_is); (case z_str => k_is); (case z_dict => k_is); (case z_set => k_is); (case z_enumerate => k_is); (case z_zip => k_is); (case z_iter => k_is); (case sN => k_is)

